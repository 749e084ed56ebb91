import PyProof.Rows.All
import Open.Tops
import Wide.All
import OpenK.AllK
import Wide.FinOn
import HandS.Call
import HandS.Words
import HandS.WordsExc
import HandS.Defaults
import HandS.MakeKw
import HandS.MakeKwOnly
import PyProof.TwoTypes
import PyProof.ListMulRight
import PyProof.NeKinds
import PyProof.InstNe
import KE.KOpsOwn
import HandS.ForMost
import HandS.ForExc
import HandS.IsInst
import HandS.Wide
import HandS.EndBits
import HandS.FStr
import HandS.DictComp
import HandS.Walk
import HandS.Zip
import HandS.RaiseMore
import HandS.Steps
import KE.KCallOwn
import HandS.Ends
import HandS.Exc
import HandS.Lambda
import KE.KExcInit
import KE.KExcIs
import KE.KTryMore
import PyProof.ExcBaseAll.LookupError
import PyProof.ExcBaseAll.ArithmeticError
import PyProof.ExcBaseAll.ValueError
import HandS.HotCalls
import HandS.ExcInit
import HandS.ExcValue
import HandS.TupAny
import HandS.Deep
import HandS.More
import HandS.Conv
import KE.KDictPairs
import KE.GoesEnum
import PyProof.ListStr
import HandS.Style
import PyProof.ReprRoads
import HandS.SetFor
import PyProof.Draws
import HandS.List
import HandS.Text
import PyProof.TupleOfStr
import PyProof.SliceStr2
import HandS.TupMul
import HandS.EndTab
import KE.KNest
import PySem.Challenge.RW_slackstrings_k22_errors_limits_and_sampl
theorem PySem.W.Fast.tw1849893709005270979 : True := trivial
theorem PySem.W.Fast.tw5118274115373697811 : True := trivial
theorem PySem.W.Fast.tw2590589368451849227 : True := trivial
theorem PySem.W.Fast.tw1643190358024040162 : True := trivial
theorem PySem.W.Fast.tw3213347011438161791 : True := trivial
theorem PySem.W.Fast.tw9002114102796054663 : True := trivial
theorem PySem.W.Fast.tw4009815555042407924 : True := trivial
theorem PySem.W.Fast.tw7783812593435936008 : True := trivial
theorem PySem.W.Fast.tw12684625272407371063 : True := trivial
theorem PySem.W.Fast.tw5933377602467914944 : True := trivial
theorem PySem.W.Fast.tw17029138107575232051 : True := trivial
theorem PySem.W.Fast.tw4035260805931999878 : True := trivial
theorem PySem.W.Fast.tw5764843471134737175 : True := trivial
theorem PySem.W.Fast.tw4154760203227440101 : True := trivial
theorem PySem.W.Fast.tw12786549692452153171 : True := trivial
theorem PySem.W.Fast.tw596443969465251291 : True := trivial
theorem PySem.W.Fast.tw14416059611553294696 : True := trivial
theorem PySem.W.Fast.tw16967929483728374070 : True := trivial
theorem PySem.W.Fast.tw13343313306336813449 : True := trivial
theorem PySem.W.Fast.tw7988978787162230243 : True := trivial
theorem PySem.W.Fast.tw18440072001131100068 : True := trivial
theorem PySem.W.Fast.tw3121944104903480538 : True := trivial
theorem PySem.W.Fast.tw7601009609127830681 : True := trivial
theorem PySem.W.Fast.tw7392396172899389114 : True := trivial
theorem PySem.W.Fast.tw10146977925887978301 : True := trivial
theorem PySem.W.Fast.tw837171593407204189 : True := trivial
theorem PySem.W.Fast.tw17006021691103472957 : True := trivial
theorem PySem.W.Fast.tw416527103434463387 : True := trivial
theorem PySem.W.Fast.tw8099522350000131640 : True := trivial
theorem PySem.W.Fast.tw3224354042845767813 : True := trivial
theorem PySem.W.Fast.tw12203032521123096828 : True := trivial
theorem PySem.W.Fast.tw15071670935101426114 : True := trivial
theorem PySem.W.Fast.tw169567618601462494 : True := trivial
theorem PySem.W.Fast.tw1090596454483575927 : True := trivial
theorem PySem.W.Fast.tw11938107970721568569 : True := trivial
theorem PySem.W.Fast.tw5978895526330136019 : True := trivial
theorem PySem.W.Fast.tw3027415598696193527 : True := trivial
theorem PySem.W.Fast.tw4907382924534254667 : True := trivial
theorem PySem.W.Fast.tw5066519015696102676 : True := trivial
theorem PySem.W.Fast.tw11479447672835330646 : True := trivial
theorem PySem.W.Fast.tw7373297330308722900 : True := trivial
theorem PySem.W.Fast.tw4089155969274138248 : True := trivial
theorem PySem.W.Fast.tw385574880919893410 : True := trivial
theorem PySem.W.Fast.tw15120308810660472069 : True := trivial
theorem PySem.W.Fast.tw1011998554938256805 : True := trivial
theorem PySem.W.Fast.tw10427441645129086187 : True := trivial
set_option Elab.async false
set_option linter.all false
set_option maxRecDepth 100000 in
set_option maxHeartbeats 0 in
open PySem PySem.W in
open_shared topK for PySem.Challenge.rw_slackstrings_k22_errors_limits_and_sampl.prog leaving 0
theorem PySem.W.Fast.tw9936838683185810764 : True := trivial
set_option maxRecDepth 100000 in
noncomputable def topK.K : PySem.Params → PySem.W.Frag := fun P => (nat_lit 3, topK.o_1317 P) :: (nat_lit 30, topK.o_22 P) :: (nat_lit 31, topK.o_536 P) :: (nat_lit 47, topK.o_43 P) :: (nat_lit 48, topK.o_44 P) :: (nat_lit 50, topK.o_46 P) :: (nat_lit 51, topK.o_47 P) :: (nat_lit 66, topK.o_66 P) :: (nat_lit 67, topK.o_67 P) :: (nat_lit 69, topK.o_69 P) :: (nat_lit 70, topK.o_70 P) :: (nat_lit 85, topK.o_89 P) :: (nat_lit 86, topK.o_90 P) :: (nat_lit 88, topK.o_92 P) :: (nat_lit 89, topK.o_93 P) :: (nat_lit 104, topK.o_112 P) :: (nat_lit 105, topK.o_113 P) :: (nat_lit 107, topK.o_115 P) :: (nat_lit 108, topK.o_116 P) :: (nat_lit 123, topK.o_135 P) :: (nat_lit 124, topK.o_136 P) :: (nat_lit 126, topK.o_138 P) :: (nat_lit 127, topK.o_139 P) :: (nat_lit 142, topK.o_158 P) :: (nat_lit 143, topK.o_159 P) :: (nat_lit 145, topK.o_161 P) :: (nat_lit 146, topK.o_162 P) :: (nat_lit 161, topK.o_181 P) :: (nat_lit 162, topK.o_182 P) :: (nat_lit 164, topK.o_184 P) :: (nat_lit 165, topK.o_185 P) :: (nat_lit 180, topK.o_204 P) :: (nat_lit 181, topK.o_205 P) :: (nat_lit 183, topK.o_207 P) :: (nat_lit 184, topK.o_208 P) :: (nat_lit 199, topK.o_227 P) :: (nat_lit 200, topK.o_228 P) :: (nat_lit 202, topK.o_230 P) :: (nat_lit 203, topK.o_231 P) :: (nat_lit 218, topK.o_250 P) :: (nat_lit 219, topK.o_251 P) :: (nat_lit 221, topK.o_253 P) :: (nat_lit 222, topK.o_254 P) :: (nat_lit 237, topK.o_273 P) :: (nat_lit 238, topK.o_274 P) :: (nat_lit 240, topK.o_276 P) :: (nat_lit 241, topK.o_277 P) :: (nat_lit 256, topK.o_296 P) :: (nat_lit 257, topK.o_297 P) :: (nat_lit 259, topK.o_299 P) :: (nat_lit 260, topK.o_300 P) :: (nat_lit 275, topK.o_319 P) :: (nat_lit 276, topK.o_320 P) :: (nat_lit 278, topK.o_322 P) :: (nat_lit 279, topK.o_323 P) :: (nat_lit 294, topK.o_342 P) :: (nat_lit 295, topK.o_343 P) :: (nat_lit 297, topK.o_345 P) :: (nat_lit 298, topK.o_346 P) :: (nat_lit 313, topK.o_365 P) :: (nat_lit 314, topK.o_366 P) :: (nat_lit 316, topK.o_368 P) :: (nat_lit 317, topK.o_369 P) :: (nat_lit 332, topK.o_388 P) :: (nat_lit 333, topK.o_389 P) :: (nat_lit 335, topK.o_391 P) :: (nat_lit 336, topK.o_392 P) :: (nat_lit 351, topK.o_411 P) :: (nat_lit 352, topK.o_412 P) :: (nat_lit 354, topK.o_414 P) :: (nat_lit 355, topK.o_415 P) :: (nat_lit 370, topK.o_434 P) :: (nat_lit 371, topK.o_435 P) :: (nat_lit 373, topK.o_437 P) :: (nat_lit 374, topK.o_438 P) :: (nat_lit 389, topK.o_457 P) :: (nat_lit 390, topK.o_458 P) :: (nat_lit 392, topK.o_460 P) :: (nat_lit 393, topK.o_461 P) :: (nat_lit 408, topK.o_480 P) :: (nat_lit 409, topK.o_481 P) :: (nat_lit 411, topK.o_483 P) :: (nat_lit 412, topK.o_484 P) :: (nat_lit 427, topK.o_503 P) :: (nat_lit 428, topK.o_504 P) :: (nat_lit 430, topK.o_506 P) :: (nat_lit 431, topK.o_507 P) :: (nat_lit 446, topK.o_526 P) :: (nat_lit 447, topK.o_527 P) :: (nat_lit 449, topK.o_529 P) :: (nat_lit 450, topK.o_530 P) :: (nat_lit 465, topK.o_549 P) :: (nat_lit 466, topK.o_550 P) :: (nat_lit 468, topK.o_552 P) :: (nat_lit 469, topK.o_553 P) :: (nat_lit 480, topK.o_567 P) :: (nat_lit 481, topK.o_784 P) :: (nat_lit 497, topK.o_588 P) :: (nat_lit 498, topK.o_589 P) :: (nat_lit 500, topK.o_591 P) :: (nat_lit 501, topK.o_592 P) :: (nat_lit 516, topK.o_611 P) :: (nat_lit 517, topK.o_612 P) :: (nat_lit 519, topK.o_614 P) :: (nat_lit 520, topK.o_615 P) :: (nat_lit 535, topK.o_634 P) :: (nat_lit 536, topK.o_635 P) :: (nat_lit 538, topK.o_637 P) :: (nat_lit 539, topK.o_638 P) :: (nat_lit 554, topK.o_657 P) :: (nat_lit 555, topK.o_658 P) :: (nat_lit 557, topK.o_660 P) :: (nat_lit 558, topK.o_661 P) :: (nat_lit 573, topK.o_680 P) :: (nat_lit 574, topK.o_681 P) :: (nat_lit 576, topK.o_683 P) :: (nat_lit 577, topK.o_684 P) :: (nat_lit 592, topK.o_703 P) :: (nat_lit 593, topK.o_704 P) :: (nat_lit 595, topK.o_706 P) :: (nat_lit 596, topK.o_707 P) :: (nat_lit 611, topK.o_726 P) :: (nat_lit 612, topK.o_727 P) :: (nat_lit 614, topK.o_729 P) :: (nat_lit 615, topK.o_730 P) :: (nat_lit 626, topK.o_745 P) :: (nat_lit 627, topK.o_746 P) :: (nat_lit 638, topK.o_761 P) :: (nat_lit 639, topK.o_762 P) :: (nat_lit 650, topK.o_777 P) :: (nat_lit 651, topK.o_778 P) :: (nat_lit 666, topK.o_797 P) :: (nat_lit 667, topK.o_798 P) :: (nat_lit 669, topK.o_800 P) :: (nat_lit 670, topK.o_801 P) :: (nat_lit 681, topK.o_816 P) :: (nat_lit 682, topK.o_824 P) :: (nat_lit 698, topK.o_837 P) :: (nat_lit 699, topK.o_838 P) :: (nat_lit 701, topK.o_840 P) :: (nat_lit 702, topK.o_841 P) :: (nat_lit 710, topK.o_852 P) :: (nat_lit 711, topK.o_853 P) :: (nat_lit 712, topK.o_854 P) :: (nat_lit 718, topK.o_860 P) :: (nat_lit 719, topK.o_861 P) :: (nat_lit 723, topK.o_865 P) :: (nat_lit 724, topK.o_866 P) :: (nat_lit 728, topK.o_870 P) :: (nat_lit 729, topK.o_871 P) :: (nat_lit 733, topK.o_875 P) :: (nat_lit 734, topK.o_876 P) :: (nat_lit 906, topK.o_1115 P) :: (nat_lit 907, topK.o_1116 P) :: (nat_lit 913, topK.o_1122 P) :: (nat_lit 914, topK.o_1123 P) :: (nat_lit 920, topK.o_1129 P) :: (nat_lit 921, topK.o_1130 P) :: (nat_lit 927, topK.o_1136 P) :: (nat_lit 928, topK.o_1137 P) :: (nat_lit 934, topK.o_1143 P) :: (nat_lit 935, topK.o_1144 P) :: (nat_lit 941, topK.o_1150 P) :: (nat_lit 942, topK.o_1151 P) :: (nat_lit 946, topK.o_1155 P) :: (nat_lit 947, topK.o_1156 P) :: (nat_lit 972, topK.o_1184 P) :: (nat_lit 973, topK.o_1185 P) :: (nat_lit 1012, topK.o_1224 P) :: (nat_lit 1013, topK.o_1225 P) :: (nat_lit 1015, topK.o_1227 P) :: (nat_lit 1016, topK.o_1228 P) :: (nat_lit 1031, topK.o_1246 P) :: (nat_lit 1032, topK.o_1247 P) :: (nat_lit 1038, topK.o_1253 P) :: (nat_lit 1039, topK.o_1254 P) :: (nat_lit 1045, topK.o_1260 P) :: (nat_lit 1046, topK.o_1261 P) :: (nat_lit 1052, topK.o_1267 P) :: (nat_lit 1053, topK.o_1268 P) :: (nat_lit 1059, topK.o_1274 P) :: (nat_lit 1060, topK.o_1275 P) :: (nat_lit 1066, topK.o_1281 P) :: (nat_lit 1067, topK.o_1282 P) :: (nat_lit 1073, topK.o_1288 P) :: (nat_lit 1074, topK.o_1289 P) :: (nat_lit 1080, topK.o_1295 P) :: (nat_lit 1081, topK.o_1296 P) :: (nat_lit 1087, topK.o_1302 P) :: (nat_lit 1088, topK.o_1303 P) :: (nat_lit 1092, topK.o_1307 P) :: (nat_lit 1093, topK.o_1308 P) :: (nat_lit 1099, topK.o_1314 P) :: (nat_lit 1100, topK.o_1315 P) :: (nat_lit 1104, topK.o_1322 P) :: (nat_lit 1105, topK.o_1323 P) :: (nat_lit 1, PySem.W.boot_o_1 P) :: []
set_option linter.all false
/-! ### a mirror of the program over plain data: values, a store of slots, combinators that run -/
namespace DY
/-- a key of a dict -/
abbrev Ky := Sum Int (List Nat)
inductive BT where
  | int | bool | str | tuple | list | dict | set | xv | xl | xa
  deriving DecidableEq
/-- data: no heap; an instance is its class' number and its attributes in order -/
inductive D where
  | non
  | bl (b : Bool)
  | int (i : Int)
  | str (s : List Nat)
  | tup (xs : List D)
  | kt (xs : List D)
  | lst (xs : List D)
  | fls (xs : List D)
  | dic (kvs : List (Ky × D))
  | dct (kvs : List (List Ky × D))
  | ins (c : Nat) (fs : List D)
  | ty (t : BT)
  | cls (c : Nat)
  | any
  | err (c : Nat) (fs : List D)
/-- what a run gives: an end, an exception, or nothing that is told -/
inductive R (α : Type) where
  | ok (a : α)
  | ex (d : D)
  | no
@[reducible] def R.bind {α β : Type} : R α → (α → R β) → R β
  | .ok a, f => f a
  | .ex d, _ => .ex d
  | .no, _ => .no
instance : Monad R where
  pure := R.ok
  bind := R.bind
theorem bind_ok {α β : Type} {r : R α} {f : α → R β} {b : β} (h : (r >>= f) = .ok b) : ∃ a, r = .ok a ∧ f a = .ok b := by
  cases r with
  | ok a => exact ⟨a, rfl, h⟩
  | ex d => cases h
  | no => cases h
/-- a slot: nothing known; a value that nobody changes any more; an object of this def's own -/
inductive Slot where
  | un
  | sh (d : D)
  | ow (d : D)
abbrev Env := List Slot
abbrev Rv := D × Bool
abbrev Ev := Env → R (Rv × Env)
/-- the value, its object given up -/
def val (e : Ev) : Env → R (D × Env) := fun ρ => do
  let (r, ρ') ← e ρ
  pure (r.1, ρ')
def eVar (i : Nat) : Ev := fun ρ =>
  match ρ[i]? with
  | some (.sh d) => .ok ((d, false), ρ)
  | some (.ow d) => .ok ((d, false), ρ.set i (.sh d))
  | _ => .no
def eMove (i : Nat) : Ev := fun ρ =>
  match ρ[i]? with
  | some (.sh d) => .ok ((d, false), ρ)
  | some (.ow d) => .ok ((d, true), ρ.set i .un)
  | _ => .no
def eC (d : D) : Ev := fun ρ => .ok ((d, false), ρ)
def eBin (f : D → D → R Rv) (a b : Ev) : Ev := fun ρ => do
  let (x, ρ1) ← val a ρ
  let (y, ρ2) ← val b ρ1
  let r ← f x y
  pure (r, ρ2)
def eUn (f : D → R Rv) (a : Ev) : Ev := fun ρ => do
  let (x, ρ1) ← val a ρ
  let r ← f x
  pure (r, ρ1)
/-- an operation that looks at the object of slot i, without giving it up: x op slot -/
def look (ρ : Env) (i : Nat) : R D :=
  match ρ[i]? with
  | some (.sh d) => .ok d
  | some (.ow d) => .ok d
  | _ => .no
def eBor (f : D → D → R Rv) (i : Nat) (b : Ev) : Ev := fun ρ => do
  let _ ← look ρ i
  let (y, ρ1) ← val b ρ
  let d ← look ρ1 i
  let r ← f d y
  pure (r, ρ1)
/-- x op slot -/
def eBorR (f : D → D → R Rv) (a : Ev) (i : Nat) : Ev := fun ρ => do
  let (x, ρ1) ← val a ρ
  let d ← look ρ1 i
  let r ← f x d
  pure (r, ρ1)
def eBor1 (f : D → R Rv) (i : Nat) : Ev := fun ρ => do
  let d ← look ρ i
  let r ← f d
  pure (r, ρ)
def evs : List Ev → Env → R (List D × Env)
  | [], ρ => .ok ([], ρ)
  | e :: es, ρ => do
    let (x, ρ1) ← val e ρ
    let (xs, ρ2) ← evs es ρ1
    pure (x :: xs, ρ2)
def eN (f : List D → R Rv) (as : List Ev) : Ev := fun ρ => do
  let (xs, ρ1) ← evs as ρ
  let r ← f xs
  pure (r, ρ1)
def isB : D → R Bool
  | .bl b => .ok b
  | _ => .no
def eIf (t a b : Ev) : Ev := fun ρ => do
  let (x, ρ1) ← val t ρ
  let c ← isB x
  if c then a ρ1 else b ρ1
def eAnd (a b : Ev) : Ev := fun ρ => do
  let (x, ρ1) ← val a ρ
  let c ← isB x
  if c then b ρ1 else .ok ((.bl false, false), ρ1)
def eOr (a b : Ev) : Ev := fun ρ => do
  let (x, ρ1) ← val a ρ
  let c ← isB x
  if c then .ok ((.bl true, false), ρ1) else b ρ1
def eNot (a : Ev) : Ev := fun ρ => do
  let (x, ρ1) ← val a ρ
  let c ← isB x
  pure ((.bl (!c), false), ρ1)
/-- a op b op' c -/
def eChain (f g : D → D → R Rv) (a b c : Ev) : Ev := fun ρ => do
  let (x, ρ1) ← val a ρ
  let (y, ρ2) ← val b ρ1
  let r ← f x y
  let k ← isB r.1
  if k then do
    let (z, ρ3) ← val c ρ2
    let r ← g y z
    pure (r, ρ3)
  else .ok ((.bl false, false), ρ2)
/-- a def without a borrowed parameter; with one -/
abbrev Fn := List D → R Rv
abbrev FnR := List D → D → R (Rv × D)
/-- a call that lends the object of slot i -/
def eCallR (F : FnR) (pre : List Ev) (i : Nat) (post : List Ev) : Ev := fun ρ => do
  let _ ← look ρ i
  let (xs, ρ1) ← evs pre ρ
  let (ys, ρ2) ← evs post ρ1
  match ρ2[i]? with
  | some (.ow d) => do
    let (r, d') ← F (xs ++ ys) d
    pure (r, ρ2.set i (.ow d'))
  | _ => .no
/-- a call that lends a new object, its last argument -/
def eCallT (F : FnR) (pre : List Ev) (e : Ev) : Ev := fun ρ => do
  let (xs, ρ1) ← evs pre ρ
  let (t, ρ2) ← e ρ1
  if t.2 then do
    let (r, _) ← F xs t.1
    pure (r, ρ2)
  else .no
def isIns (c : Nat) : D → R Unit
  | .ins c' _ => if c' = c then .ok () else .no
  | _ => .no
/-- o.m(..), o an instance of class c; with keywords: g puts the values in the parameters' order -/
def eMeth (c : Nat) (F : Fn) (a : Ev) (ms : List Ev) : Ev := fun ρ => do
  let (x, ρ1) ← val a ρ
  isIns c x
  let (xs, ρ2) ← evs ms ρ1
  let r ← F (x :: xs)
  pure (r, ρ2)
def eMethK (c : Nat) (F : Fn) (g : List D → List D → List D) (a : Ev) (ms ks : List Ev) : Ev := fun ρ => do
  let (x, ρ1) ← val a ρ
  isIns c x
  let (xs, ρ2) ← evs ms ρ1
  let (zs, ρ3) ← evs ks ρ2
  let r ← F (g (x :: xs) zs)
  pure (r, ρ3)
/-- f(.., k = v) -/
def eNK (F : Fn) (g : List D → List D → List D) (ms ks : List Ev) : Ev := fun ρ => do
  let (xs, ρ2) ← evs ms ρ
  let (zs, ρ3) ← evs ks ρ2
  let r ← F (g xs zs)
  pure (r, ρ3)
/-- one of two readings of an operator -/
def sel (g : D → D → Bool) (f h : D → D → R Rv) : D → D → R Rv := fun x y => if g x y then f x y else h x y
def sel1 (g : D → Bool) (f h : D → R Rv) : D → R Rv := fun x => if g x then f x else h x
def isC (c : Nat) : D → Bool
  | .ins c' _ => decide (c' = c)
  | _ => false
def cc (c : Nat) (x y : D) : Bool := isC c x && isC c y
def hasTy : D → Bool
  | .non => true
  | .bl _ => true
  | .int _ => true
  | .str _ => true
  | .tup _ => true
  | .lst _ => true
  | .dic _ => true
  | .ins _ _ => true
  | _ => false
def cany (c : Nat) (x y : D) : Bool := isC c x && hasTy y
/-! ### statements -/
inductive Out where
  | nx | bk | ct
  | rt (r : Rv)
abbrev Sv := Env → R (Out × Env)
def sNext : Sv := fun ρ => .ok (.nx, ρ)
def sNo : Sv := fun _ => .no
def sSeq (s t : Sv) : Sv := fun ρ => do
  let (o, ρ1) ← s ρ
  match o with
  | .nx => t ρ1
  | o => .ok (o, ρ1)
/-- what a name holds then: its own object, if it is new and w says so -/
def keep (w : Bool) (r : Rv) : Slot := if r.2 && w then .ow r.1 else .sh r.1
def sAsg (w : Bool) (i : Nat) (e : Ev) : Sv := fun ρ => do
  let (r, ρ1) ← e ρ
  pure (.nx, ρ1.set i (keep w r))
def sPar (w : Bool) (i j : Nat) (a b : Ev) : Sv := fun ρ => do
  let (r, ρ1) ← a ρ
  let (q, ρ2) ← b ρ1
  pure (.nx, (ρ2.set i (keep w r)).set j (keep w q))
abbrev Tg := D → Env → R Env
def gN (i : Nat) : Tg := fun d ρ => .ok (ρ.set i (.sh d))
def gGo : List Tg → List D → Env → R Env
  | [], [], ρ => .ok ρ
  | g :: gs, d :: ds, ρ => do
    let ρ1 ← g d ρ
    gGo gs ds ρ1
  | _, _, _ => .no
def gT (gs : List Tg) : Tg := fun d ρ =>
  match d with
  | .tup ds => gGo gs ds ρ
  | .kt ds => gGo gs ds ρ
  | _ => .no
def sAsgT (g : Tg) (e : Ev) : Sv := fun ρ => do
  let (x, ρ1) ← val e ρ
  let ρ2 ← g x ρ1
  pure (.nx, ρ2)
def sExpr (e : Ev) : Sv := fun ρ => do
  let (_, ρ1) ← val e ρ
  pure (.nx, ρ1)
def sRet (e : Ev) : Sv := fun ρ => do
  let (r, ρ1) ← e ρ
  pure (.rt r, ρ1)
/-- return x, x a local name: its object goes out -/
def sRetV (i : Nat) : Sv := fun ρ => do
  let (r, ρ1) ← eMove i ρ
  pure (.rt r, ρ1)
def sRetN : Sv := fun ρ => .ok (.rt (.non, false), ρ)
def sIf (t : Ev) (a b : Sv) : Sv := fun ρ => do
  let (x, ρ1) ← val t ρ
  let c ← isB x
  if c then a ρ1 else b ρ1
abbrev Iv := Env → R (List D × Env)
def forGo (g : Tg) (body : Sv) : List D → Env → R (Out × Env)
  | [], ρ => .ok (.nx, ρ)
  | d :: ds, ρ => do
    let ρ1 ← g d ρ
    let (o, ρ2) ← body ρ1
    match o with
    | .nx => forGo g body ds ρ2
    | .ct => forGo g body ds ρ2
    | .bk => .ok (.nx, ρ2)
    | .rt r => .ok (.rt r, ρ2)
def sFor (it : Iv) (g : Tg) (body : Sv) : Sv := fun ρ => do
  let (ds, ρ1) ← it ρ
  forGo g body ds ρ1
/-- slot i's own object is changed by f; the answer -/
def isL : D → R Unit
  | .lst _ => .ok ()
  | _ => .no
def eMut (f : D → List D → R (D × D)) (i : Nat) (as : List Ev) : Ev := fun ρ => do
  let d0 ← look ρ i
  isL d0
  let (xs, ρ1) ← evs as ρ
  match ρ1[i]? with
  | some (.ow d) => do
    let (r, d') ← f d xs
    pure ((r, false), ρ1.set i (.ow d'))
  | _ => .no
/-- slot[e] = v : the value first -/
def sPut (f : D → D → D → R D) (i : Nat) (e v : Ev) : Sv := fun ρ => do
  let (y, ρ1) ← val v ρ
  let _ ← look ρ1 i
  let (x, ρ2) ← val e ρ1
  match ρ2[i]? with
  | some (.ow d) => do
    let d' ← f d x y
    pure (.nx, ρ2.set i (.ow d'))
  | _ => .no
/-- self.f = e, the k-th attribute -/
def sFld (c k : Nat) (e : Ev) : Sv := fun ρ => do
  let (y, ρ1) ← val e ρ
  match (ρ1[0]? : Option Slot) with
  | some (.ow (.ins c' fs)) => if c' = c ∧ k = fs.length then .ok (.nx, ρ1.set 0 (.ow (.ins c' (fs ++ [y])))) else .no
  | _ => .no
/-- x.get(k, z): x a value; the object of slot i -/
def eGet (f : D → D → D → R Rv) (a k z : Ev) : Ev := fun ρ => do
  let (x, ρ1) ← val a ρ
  let (y, ρ2) ← val k ρ1
  let (w, ρ3) ← val z ρ2
  let r ← f x y w
  pure (r, ρ3)
def eGetS (f : D → D → D → R Rv) (i : Nat) (k z : Ev) : Ev := fun ρ => do
  let d0 ← look ρ i
  let (y, ρ2) ← val k ρ
  let (w, ρ3) ← val z ρ2
  let d ← look ρ3 i
  let _ ← f d0 y w
  let r ← f d y w
  pure (r, ρ3)
/-! ### comprehensions -/
def wipeS (ρ : Env) : List Nat → Env
  | [] => ρ
  | i :: is => (wipeS ρ is).set i .un
/-- the slots vs as they were in ρ0 -/
def backS (ρ0 ρ : Env) : List Nat → Env
  | [] => ρ
  | i :: is => (backS ρ0 ρ is).set i (ρ0.getD i .un)
def noOw (ρ : Env) (vs : List Nat) : Bool := vs.all fun i => match ρ[i]? with | some (.ow _) => false | some _ => true | none => false
/-- the tests of a comprehension -/
def cond : Option Ev → Env → R (Bool × Env)
  | none, ρ => .ok (true, ρ)
  | some t, ρ => do
    let (x, ρ') ← val t ρ
    let b ← isB x
    pure (b, ρ')
def lcGo (g : Tg) (c : Option Ev) (e : Ev) (vs : List Nat) : List D → List D → Env → R (List D × Env)
  | [], acc, ρ => .ok (acc, ρ)
  | d :: ds, acc, ρ => do
    let ρ1 ← g d (wipeS ρ vs)
    let (k, ρ2) ← cond c ρ1
    if k then do
      let (y, ρ3) ← val e ρ2
      lcGo g c e vs ds (acc ++ [y]) ρ3
    else lcGo g c e vs ds acc ρ2
def eLc (it : Iv) (g : Tg) (c : Option Ev) (e : Ev) (vs : List Nat) : Ev := fun ρ => do
  let (ds, ρ1) ← it ρ
  if noOw ρ1 vs && decide (ds.length ≤ 1000) then do
    let (acc, ρ2) ← lcGo g c e vs ds [] ρ1
    pure ((.lst acc, true), backS ρ1 ρ2 vs)
  else .no
/-! ### dicts -/
section
variable {κ : Type} [DecidableEq κ]
def dget (kvs : List (κ × D)) (k : κ) : Option D := (kvs.find? fun kv => decide (kv.1 = k)).map (·.2)
def dput (kvs : List (κ × D)) (k : κ) (v : D) : List (κ × D) :=
  if (kvs.any fun kv => decide (kv.1 = k)) = true then kvs.map (fun kv => if kv.1 = k then (kv.1, v) else kv) else kvs ++ [(k, v)]
end
def keyOf : D → R Ky
  | .int i => .ok (.inl i)
  | .str s => .ok (.inr s)
  | _ => .no
def keysOf : List D → R (List Ky)
  | [] => .no
  | [d] => do
    let k ← keyOf d
    pure [k]
  | d :: ds => do
    let k ← keyOf d
    let ks ← keysOf ds
    pure (k :: ks)
def kyD : Ky → D
  | .inl i => .int i
  | .inr s => .str s
/-! ### defs -/
def slots (n : Nat) (ds : List D) : Env := ds.map Slot.sh ++ List.replicate (n - ds.length) .un
def endOf : Out → R Rv
  | .nx => .ok (.non, false)
  | .rt r => .ok r
  | _ => .no
def mkFn (n p : Nat) (body : Sv) : Fn := fun ds =>
  if ds.length = p then do
    let (o, _) ← body (slots n ds)
    endOf o
  else .no
/-- the parameter at j is lent -/
def mkFnR (n p j : Nat) (body : Sv) : FnR := fun ds d =>
  if ds.length + 1 = p ∧ j < p then do
    let (o, ρ) ← body ((slots n (ds.take j ++ d :: ds.drop j)).set j (.ow d))
    let r ← endOf o
    match ρ[j]? with
    | some (.ow d') => .ok (r, d')
    | _ => .no
  else .no
/-- C(..) by its __init__: self is lent -/
def mkObj (c : Nat) (init : FnR) : Fn := fun ds => do
  let (r, d) ← init ds (.ins c [])
  match r with
  | (.non, false) => .ok (d, false)
  | _ => .no
end DY

set_option Elab.async false
set_option linter.all false
set_option maxRecDepth 100000
set_option maxHeartbeats 4000000
/-! SLG: contracts of defs that are called while nothing is being shown (so that repr of containers can be read). -/
namespace SL
open PySem L2 PySem.Spec PyProof.Rows
structure Room (k : Nat) (A : Around) : Prop extends L2.Room k A where
  g : A.guards = some []
section
variable {j k : Nat} {A : Around}
theorem Room.mono (r : Room k A) (h : j ≤ k) : Room j A := ⟨r.toRoom.mono h, r.g⟩
theorem Room.deeper (r : Room (k + 1) A) (env : Env) : Room k (A.deeper env) := ⟨r.toRoom.deeper env, r.g⟩
theorem Room.in1 (r : Room (k + 1) A) : Room k A.in1 := ⟨r.toRoom.in1, r.g⟩
theorem Room.make (r : Room (k + 1) A) (C : Addr) (us : List Value) (kw : List (Str × Value)) : Room k (A.under (.builtin "type.__call__" ⟨.ref C :: us, kw⟩)) := ⟨r.toRoom.make C us kw, by
  have : (A.under (.builtin "type.__call__" ⟨.ref C :: us, kw⟩)).guards = A.guards := by
    first | rfl | simp [Around.under, Code.guards, Code.isGuard, guardIds, pushGuards]
  rw [this]; exact r.g⟩
end
/-- what a def promises -/
structure FnOk (P : Program) (w : World) (K : PySem.W.Frag) (mg : Str → Option Value) (base : Heap) (CX : CXT) (k : Nat) (f : Addr) (fd : FuncData) (ps : List Str) (sp : Sp) : Prop where
  len : ∀ vs H Q E, sp vs H Q E → vs.length = ps.length
  run : ∀ (A : Around) (outer : List Env) (s : Shared) (H : Hp) (args : Args) (us : List Value) (vs : List V) (Q : VK) (E : XK), Room k A → Env0 P w K mg base A outer s H → BindsTo s fd args (ps.zip us) → Vals vs us → sp vs H Q E → codeAny (model P w) A (.call (.ref f) args) (CR CX outer P w H s Q E) s
section
variable {X : Cx} {CX : CXT} {k n : Nat} {f C : Addr} {fd : FuncData} {ps ks : List Str} {sp : Sp} {E : XK} {dvs : List V} {ds : List Value} {x m : Str} {p pos apos : Pos} {e o : Expr} {es : List Expr} {ta : TE} {t tk : TA} {kws : List Keyword} {g : List Value → List Value → List Value} {gV : List V → List V → List V}
variable {pins : List (Addr × Obj)} {σ : L2.St} {H : Hp} {s : Shared} {Q : VK} {us ws : List Value} {vs zs : List V}
/-- behind a call -/
def AftR (X : Cx) (R : Value → Shared → Prop) : Result → Shared → Prop
  | .ok (.ret u), s' => R u s'
  | .ok _, _ => False
  | .error e, s' => X.xe e s'
theorem after_call (hx : Passes CX X E) (I : Inv X pins σ H s) {r : Result} {s' : Shared} (h : CR CX X.stack X.prog X.w H s Q E r s') : AftR X (EP X pins σ Q) r s' := by
  cases r with
  | error e => exact hx pins σ H s e s' I h
  | ok fl =>
    cases fl with
    | ret u => exact I.after h
    | next => exact h
    | brk => exact h
    | cont => exact h
theorem run_fn (F : FnOk X.prog X.w X.K X.mg X.base CX k f fd ps sp) (hr : Room k X.A) (hb : Binds X.K fd ps ds) (hd : Vals dvs ds) (hx : Passes CX X E) (I : Inv X pins σ H s) (r : Vals vs us) (h : sp (vs ++ dvs) H Q E) : wpAny (model X.prog X.w) X.A (call (.ref f) us) (EP X pins σ Q) X.xe s := by
  have r2 : Vals (vs ++ dvs) (us ++ ds) := r.append hd
  refine wpAny_call (codeAny_mono (F.run X.A X.stack s H ⟨us, []⟩ (us ++ ds) (vs ++ dvs) Q E hr I.env0 (hb s us I.kIn (r2.length.symm.trans (F.len _ _ _ _ h))) r2 h) fun q s' hq => ?_)
  have z := after_call hx I hq
  match q, z with
  | .error _, z => exact z
  | .ok (.ret _), z => exact z
/-- a new object: its place, its own dict, and what its maker promises -/
theorem made_end {x : Addr} (I : Inv X pins σ H s) (hx : Passes CX X E) {q : Result} {s' : Shared} (hq : CR CX X.stack X.prog X.w H s (fun v H2 => v = .non ∧ Q (.ref x) H2) E q s') : AftR X (fun u s' => u = .none ∧ EP X pins σ Q (.ref x) s') q s' := by
  have z := after_call hx I hq
  match q, z with
  | .error _, z => exact z
  | .ok (.ret u), ⟨v, H', I3, rv, ev, q3⟩ =>
    subst ev
    exact ⟨rv, ⟨V.ref x, H', I3, rfl, q3⟩⟩
theorem run_makeN (M : Mk X.K C f) (F : FnOk X.prog X.w X.K X.mg X.base CX k f fd ps sp) (hr : Room (k + 1) X.A) (hb : KBn X.K fd ps (n + 1) ks g gV) (hx : Passes CX X E) (I : Inv X pins σ H s) (r : Vals vs us) (rz : Vals zs ws) (l1 : vs.length = n) (l2 : zs.length = ks.length)
    (h : ∀ x dx, H x = none → H dx = none → dx ≠ x → sp (gV (.ref x :: vs) zs) (upd (upd H dx (.own x)) x (.ins C dx [])) (fun v H2 => v = .non ∧ Q (.ref x) H2) E) : wpAny (model X.prog X.w) X.A (call (.ref C) us (ks.zip ws)) (EP X pins σ Q) X.xe s := by
  have hq := h (s.heap.objs.size + 1) s.heap.objs.size (I.hok.fresh (Nat.le_succ _)) (I.hok.fresh (Nat.le_refl _)) (Nat.ne_of_lt (Nat.lt_succ_self _))
  have I2 := Inv.made (C := C) I
  have r1 : Vals (V.ref (s.heap.objs.size + 1) :: vs) (Value.ref (s.heap.objs.size + 1) :: us) := .cons rfl r
  have e1 : (Value.ref (s.heap.objs.size + 1) :: us).length = n + 1 := r1.length.symm.trans (congrArg Nat.succ l1)
  refine wpAny_call (make_map (f := f) I.kIn M.makes M.init (beq_iff_eq.mp M.fn) (codeAny_mono (F.run _ X.stack _ _ ⟨Value.ref (s.heap.objs.size + 1) :: us, ks.zip ws⟩ (g (Value.ref (s.heap.objs.size + 1) :: us) ws) _ _ E (hr.make C us (ks.zip ws)) (I2.env0.make C us (ks.zip ws)) (hb.to _ (Value.ref (s.heap.objs.size + 1) :: us) ws I2.kIn e1 (rz.length.symm.trans l2)) (hb.rel r1 rz) hq) fun q s' hq' => ?_))
  have z := made_end I2 hx hq'
  match q, z with
  | .error _, z => exact z
  | .ok (.ret _), z => exact z
theorem run_make (M : Mk X.K C f) (F : FnOk X.prog X.w X.K X.mg X.base CX k f fd ps sp) (hr : Room (k + 1) X.A) (hb : Binds X.K fd ps ds) (hd : Vals dvs ds) (hx : Passes CX X E) (I : Inv X pins σ H s) (r : Vals vs us)
    (h : ∀ x dx, H x = none → H dx = none → dx ≠ x → sp (.ref x :: (vs ++ dvs)) (upd (upd H dx (.own x)) x (.ins C dx [])) (fun v H2 => v = .non ∧ Q (.ref x) H2) E) : wpAny (model X.prog X.w) X.A (call (.ref C) us) (EP X pins σ Q) X.xe s := by
  have hq := h (s.heap.objs.size + 1) s.heap.objs.size (I.hok.fresh (Nat.le_succ _)) (I.hok.fresh (Nat.le_refl _)) (Nat.ne_of_lt (Nat.lt_succ_self _))
  have I2 := Inv.made (C := C) I
  have r2 : Vals (V.ref (s.heap.objs.size + 1) :: (vs ++ dvs)) (Value.ref (s.heap.objs.size + 1) :: (us ++ ds)) := .cons rfl (r.append hd)
  refine wpAny_call (make_map (f := f) I.kIn M.makes M.init (beq_iff_eq.mp M.fn) (codeAny_mono (F.run _ X.stack _ _ ⟨Value.ref (s.heap.objs.size + 1) :: us, []⟩ (Value.ref (s.heap.objs.size + 1) :: (us ++ ds)) _ _ E (hr.make C us []) (I2.env0.make C us []) (hb _ (Value.ref (s.heap.objs.size + 1) :: us) I2.kIn (r2.length.symm.trans (F.len _ _ _ _ hq))) r2 hq) fun q s' hq' => ?_))
  have z := made_end I2 hx hq'
  match q, z with
  | .error _, z => exact z
  | .ok (.ret _), z => exact z
/-! calls as they are written -/
theorem pe_call (F : FnOk X.prog X.w X.K X.mg X.base CX k f fd ps sp) (hr : Room k X.A) (hg : Gl X x) (hm : X.mg x = some (.ref f)) (hk : PySem.W.keepIn X.K (.ref f) = true) (hb : Binds X.K fd ps ds) (hd : Vals dvs ds) (hx : Passes CX X E)
    (ha : PA X (e :: es) t) (hdb : (x == ("__debug__" : Str)) = false := by decide) (he : starEach (e :: es) X.env = (false, eval e X.env) :: starEach es X.env := by rfl) (hpl : (backTo pos (starEach es X.env)).any (·.1) = false := by rfl) : PE X (.Call (.Name x p) (e :: es) [] pos) (tCall sp dvs E t) :=
  ⟨fun pins s σ H _ I h => wpAny_Call_Name_kw (ld_glob I hg hm (PySem.W.callWith_K (h₀ := X.base) I.ok.mod.kin hk (thn (ha.run pos pins s σ H _ I h) fun _ _ ⟨_, _, I1, r, q⟩ => ⟨I1.kIn, run_fn F hr hb hd hx I1 r q⟩) he hpl) hdb)⟩
theorem pe_call0 (F : FnOk X.prog X.w X.K X.mg X.base CX k f fd ps sp) (hr : Room k X.A) (hg : Gl X x) (hm : X.mg x = some (.ref f)) (hk : PySem.W.keepIn X.K (.ref f) = true) (hb : Binds X.K fd ps ds) (hd : Vals dvs ds) (hx : Passes CX X E) (hdb : (x == ("__debug__" : Str)) = false := by decide) : PE X (.Call (.Name x p) [] [] pos) (tCall sp dvs E tNil) :=
  ⟨fun _ _ _ _ _ I h => wpAny_Call_Name_kw (ld_glob I hg hm (PySem.W.callWith_K0 I.kIn hk (run_fn (us := []) F hr hb hd hx I .nil h)) hdb)⟩
theorem pe_make (M : Mk X.K C f) (F : FnOk X.prog X.w X.K X.mg X.base CX k f fd ps sp) (hr : Room (k + 1) X.A) (hg : Gl X x) (hm : X.mg x = some (.ref C)) (hb : Binds X.K fd ps ds) (hd : Vals dvs ds) (hx : Passes CX X E)
    (ha : PA X (e :: es) t) (hdb : (x == ("__debug__" : Str)) = false := by decide) (he : starEach (e :: es) X.env = (false, eval e X.env) :: starEach es X.env := by rfl) (hpl : (backTo pos (starEach es X.env)).any (·.1) = false := by rfl) : PE X (.Call (.Name x p) (e :: es) [] pos) (tMake C sp dvs E t) :=
  ⟨fun pins s σ H _ I h => wpAny_Call_Name_kw (ld_glob I hg hm (PySem.W.callWith_K (h₀ := X.base) I.ok.mod.kin M.kp (thn (ha.run pos pins s σ H _ I h) fun _ _ ⟨_, _, I1, r, q⟩ => ⟨I1.kIn, run_make M F hr hb hd hx I1 r q⟩) he hpl) hdb)⟩
end
/-! a def by its body -/
theorem fn_of {CX : CXT} {P : Program} {w : World} {K : PySem.W.Frag} {mg : Str → Option Value} {base : Heap} {k : Nat} {f : Addr} {name qual : Str} {params : Arguments} {body : List Stmt} {scope : Scope} {dV kV doc pm cdv ct oc : Value} {an od : Option Addr} {osl : Array (Option Value)} {N ps : List Str} {sp : Sp}
    (lk : K.lookup f = some ⟨oc, od, .func (PySem.W.fnOf name qual params body scope dV kV doc pm an cdv ct), osl⟩) (hcd : PySem.W.codeIn K cdv qual = true) (S : FnScope N ps scope) (len : ∀ vs H Q E, sp vs H Q E → vs.length = ps.length)
    (hbody : ∀ (A : Around) (outer : List Env) (s : Shared) (H : Hp) (vs : List V) (Q : VK) (E : XK), Room k (A.deeper (envOfC qual scope s.heap.objs.size f cdv)) → sp vs H Q E → ∃ t, PSs (cxOf CX P w K mg base N qual scope f cdv A outer s H E) body t ∧ t { nx := fun _ H' => Q .non H', rt := Q } (start N vs) H) :
    FnOk P w K mg base CX (k + 1) f (PySem.W.fnOf name qual params body scope dV kV doc pm an cdv ct) ps sp := ⟨len, fun A outer s H args us vs Q E hr e0 hb r hsp => by
  have stay : ∀ b o, base.get? b = some o → s.heap.get? b = some o := fun b o e => (e0.bs b o e).1
  have KX : K.In s.heap := e0.mod.kin.keeps stay
  refine codeAny_call_function hr.toRoom.depth (KX _ _ lk) rfl S.co S.gen rfl (PySem.W.codeRec_of KX hcd) (hb _ _ _ _ (wpAny_newFunctionEnv_cells S.kind (fun ⟨n, v⟩ hy => (S.par n (List.of_mem_zip hy).1).imp id fun q => ⟨q, PySem.W.cellsFrom_some _ _ _ (.inl q)⟩) fun env he s1 x => ?_))
  subst he
  refine ⟨(e0.mod.nolimit.keeps stay).keeps x.toInCall.keep, codeAny_func ?_⟩
  obtain ⟨t, ht, hq⟩ := hbody A outer s H vs Q E (hr.deeper _) hsp
  refine wpAny_mono (ht.run [] s1 (start N vs) H _ (inv_start S hr.toRoom.hd e0 (len _ _ _ _ hsp) r x) hq) (fun fl s' hs => ?_) fun _ _ hs => hs
  cases fl with
  | ret u => obtain ⟨v, σ', H', J, rv, q⟩ := hs; exact ⟨v, H', J.os, J.bare, J.base, J.hok, rv, q⟩
  | next => obtain ⟨σ', H', J, q⟩ := hs; exact ⟨V.non, H', J.os, J.bare, J.base, J.hok, rfl, q⟩
  | brk => obtain ⟨_, _, _, q⟩ := hs; exact q.elim
  | cont => obtain ⟨_, _, _, q⟩ := hs; exact q.elim⟩
section
variable {P : Program} {w : World} {K : PySem.W.Frag} {mg : Str → Option Value} {base : Heap} {x qual : Str} {f : Addr} {fd : FuncData} {N ps : List Str} {k : Nat} {sp : Sp}
theorem fun_ok {st : Stmt} (F : Fun K x qual st f fd) (S : FnScope N ps (defScope st)) (len : ∀ vs H Q E, sp vs H Q E → vs.length = ps.length)
    (hbody : ∀ (cdv : Value) (A : Around) (outer : List Env) (s : Shared) (H : Hp) (vs : List V) (Q : VK) (E : XK), Room k (A.deeper (envOfC qual (defScope st) s.heap.objs.size f cdv)) → sp vs H Q E → ∃ t, PSs (cxOf (L2.CX P w) P w K mg base N qual (defScope st) f cdv A outer s H E) (defBody st) t ∧ t { nx := fun _ H' => Q .non H', rt := Q } (start N vs) H) : FnOk P w K mg base (L2.CX P w) (k + 1) f fd ps sp := by
  obtain ⟨oc, od, kV, doc, pm, an, cdv, ct, osl, rfl, lk, hcd⟩ := F.ex
  exact fn_of lk hcd S len (hbody cdv)
theorem funD_ok {params : Arguments} {body : List Stmt} {scope : Scope} {dvs : List V} {kws : List (Str × V)} (F : FunD K x qual params body scope dvs kws f fd) (S : FnScope N ps scope) (len : ∀ vs H Q E, sp vs H Q E → vs.length = ps.length)
    (hbody : ∀ (cdv : Value) (A : Around) (outer : List Env) (s : Shared) (H : Hp) (vs : List V) (Q : VK) (E : XK), Room k (A.deeper (envOfC qual scope s.heap.objs.size f cdv)) → sp vs H Q E → ∃ t, PSs (cxOf (L2.CX P w) P w K mg base N qual scope f cdv A outer s H E) body t ∧ t { nx := fun _ H' => Q .non H', rt := Q } (start N vs) H) : FnOk P w K mg base (L2.CX P w) (k + 1) f fd ps sp := by
  obtain ⟨oc, od, dV, kV, doc, pm, an, cdv, ct, osl, rfl, lk, hcd, _, _⟩ := F.ex
  exact fn_of lk hcd S len (hbody cdv)
end
end SL

set_option Elab.async false
set_option linter.all false
set_option maxRecDepth 100000
set_option maxHeartbeats 4000000
namespace SL
open PySem L2 PySem.Spec PyProof.Rows

section
variable {X : Cx} {pins : List (Addr × Obj)} {σ : L2.St} {H : Hp} {s : Shared} {a C dx : Addr} {fs : List (Str × V)}
theorem inst_of (I : Inv X pins σ H s) (e : H a = some (.ins C dx fs)) : ∃ od, PySem.W.InstAt s.heap a (PySem.W.instObj C dx) C (some od) := by
  obtain ⟨mA, O, _⟩ := ins_get I.hok e
  obtain ⟨od, J, _⟩ := O.look
  exact ⟨od, J⟩
end

/-- what the class at C must show for an operator of its own -/
structure OwnOp (K : PySem.W.Frag) (C f : Addr) (name : Str) : Prop where
  at_ : PySem.W.findIn K (.ref C) name = some (some (.ref f))
  fn : PySem.W.isFn K (.ref f) = true

section
variable {X : Cx} {CX : CXT} {k : Nat} {C f : Addr} {fd : FuncData} {ps : List Str} {sp : Sp} {E : XK}

end

/-! ### an int on the left of an own operator; own == and != -/
section
open PySem.W
variable {prog : Program} {w : World} {A : Around} {E : Value → Shared → Prop} {s : Shared} {K : Frag} {y C L f f0 dx : Addr} {h₀ : Heap} {m : Str → Option Value} {od : Option Obj}
end

/-! ### own ==, != ; an int == own -/
section
open PySem.W
variable {prog : Program} {w : World} {A : Around} {E : Value → Shared → Prop} {s : Shared} {K : Frag} {x y C L f dx : Addr} {h₀ : Heap} {m : Str → Option Value} {od : Option Obj} {ox : Obj}
theorem check_own {M : Model} {id owner n : String} {rest : List Value} {Q : Unit → Shared → Prop} (hk : builtinKind id = some .slot) (hs : splitId id = some (owner, n)) (ha : argsOk id ⟨.ref x :: rest, []⟩)
    (X : K.In s.heap) (J : InstAt s.heap x ox C od) (hob : subIn K (.ref C) (.type owner) = some true) (hq : Q () s) : wpAny M A (checkBuiltinCall id ⟨.ref x :: rest, []⟩) Q E s := by
  simp only [checkBuiltinCall, hk, hs]
  refine wpAny_bind ?_
  unfold isInstance
  refine wpAny_bind (m := typeOf (.ref x)) (J.type.here ((looks_subIn X hob).here ?_))
  simp only [Bool.not_true, Bool.false_eq_true, if_false]
  cases hsig : Manifest.signature? id with
  | none => exact wpAny_pure hq
  | some sig =>
    simp only [argsOk, hsig] at ha
    have h2 : Bind.checkArgs id sig ⟨.ref x :: rest, []⟩ = pure () := ha
    show wpAny M A (Bind.checkArgs id sig ⟨.ref x :: rest, []⟩) Q E _
    rw [h2]; exact wpAny_pure hq
theorem ifBound_B {M : Model} {name : Str} {T id : String} {args : List Value} {Q : Option Value → Shared → Prop} (X : K.In s.heap) (I : InstAt s.heap x ox C od) (hs : findIn K (.ref C) name = some (some (.builtin id))) (S : Slot T name id)
    (h : wpAny M A (call (.builtin id) (.ref x :: args)) (fun v => Q (some v)) E s) : wpAny M A (callSpecialIfBound? (.ref x) name args) Q E s := by
  simp only [callSpecialIfBound?, bindSpecialIfBound?]
  refine wpAny_holding (wpAny_bind (wpAny_bind (wpAny_bind (I.type.here ((looks_findIn X hs).here ?_)))))
  simp only [S.bind]
  refine wpAny_bind (wpAny_askSetting (wpAny_ite ?_))
  have fin : wpAny M A (call (.builtin id) ([.ref x] ++ args) >>= fun v => pure (some v)) Q E s := wpAny_bind (wpAny_mono h (fun v s' h' => wpAny_pure h') fun _ _ h' => h')
  split
  · exact wpAny_bind (wpAny_pure (wpAny_pure fin))
  · exact wpAny_tryCatch (wpAny_bind (wpAny_pure (wpAny_pure fin)))
theorem objNe_own {b : Value} (X : K.In s.heap) (I : InstAt s.heap x ox C od) (hs : findIn K (.ref C) "__eq__" = some (some (.ref f))) (hf : isFn K (.ref f) = true) (hu : A.units < cLine) {Q : Fin → Shared → Prop}
    (hcall : wpAny (model prog w) A (call (.ref f) [.ref x, b]) (fun v s' => ∃ k, v = .bool k ∧ Q (.done (.ret (.bool (!k)))) s') E s) :
    wpAny (model prog w) A (Builtin.«object.__ne__» ⟨[.ref x, b], []⟩) Q E s := by
  unfold Builtin.«object.__ne__»
  repeat (first
    | with_reducible refine wpAny_cRoomFor hu ?_
    | (refine wpAny_bind (m := callSpecialIfBound? (.ref x) (Str.ofString "__eq__") [b])
        (ifBound_K X I hs hf (wpAny_mono hcall (fun r s' hr => by
          obtain ⟨b, rfl, hq⟩ := hr
          repeat (first | exact hq | exact wpAny_pure hq | exact wpAny_truthy_bool hq | (refine wpAny_bind (m := truthy (.bool _)) (wpAny_truthy_bool ?_)) | wp_step)) fun _ _ e => e)))
    | wp_step)
theorem cmp_ne_own {b tb : Value} {Q : Value → Shared → Prop} (hu : A.units + 1 < cLine) (X : K.In s.heap) (I : InstAt s.heap x ox C od) (hb : Looks (model prog w) s.heap (typeOf b) tb) (hn : notFirst K C tb = true)
    (hne : findIn K (.ref C) "__ne__" = some (some (.builtin "object.__ne__"))) (hob : subIn K (.ref C) (.type "object") = some true) (hs : findIn K (.ref C) "__eq__" = some (some (.ref f))) (hf : isFn K (.ref f) = true)
    (h : wpAny (model prog w) A.in1 (call (.ref f) [.ref x, b]) (fun v s' => ∃ k, v = .bool k ∧ Q (.bool (!k)) s') E s) : wpAny (model prog w) A (richCompare .NotEq (.ref x) b) Q E s := by
  have one : wpAny (model prog w) A (tryCompare (.ref x) "__ne__" b) (fun r s' => ∃ v, r = some v ∧ Q v s') E s := by
    unfold tryCompare
    refine wpAny_bind (ifBound_B X I hne F.cmp_object.ne (wpAny_call (codeAny_call_builtin F.cmp_object.ne.plain F.cmpEntry_ne (check_own F.cmpKind_ne F.cmpSplit_ne (F.cmpArgs_ne _ _) X I hob ?_))))
    refine objNe_own (A := A.in1) X I hs hf hu (wpAny_mono h (fun v s' hv => ?_) fun _ _ e => e)
    obtain ⟨k, rfl, hq⟩ := hv
    exact ⟨k, rfl, wpAny_pure ⟨_, rfl, hq⟩⟩
  unfold richCompare
  simp only [oneThing_ref]
  refine wpAny_holding (wpAny_bind (wpAny_cRoomFor (Nat.lt_of_succ_lt hu) ?_))
  refine wpAny_bind (I.type.here (wpAny_bind (hb.here ?_)))
  split
  · rename_i q
    have e : subIn K tb (.ref C) = some false := by
      rcases Bool.or_eq_true_iff.mp hn with e | e
      · rw [beq_iff_eq.mp e] at q; simp at q
      · exact beq_iff_eq.mp e
    refine wpAny_bind ((looks_subIn X e).here ?_)
    simp only [Bool.false_eq_true, if_false]
    refine wpAny_bind (wpAny_mono one (fun r s' z => ?_) fun _ _ e => e)
    obtain ⟨v, rfl, hq⟩ := z
    exact wpAny_pure hq
  · refine wpAny_bind (wpAny_pure ?_)
    simp only [Bool.false_eq_true, if_false]
    refine wpAny_bind (wpAny_mono one (fun r s' z => ?_) fun _ _ e => e)
    obtain ⟨v, rfl, hq⟩ := z
    exact wpAny_pure hq
end

/-! ### the same over the layer -/
section
variable {X : Cx} {CX : CXT} {k : Nat} {C f f0 : Addr} {fd : FuncData} {ps : List Str} {sp : Sp} {E : XK}
/-- a def called one C unit deeper (out of a built-in) -/
theorem run_fn1 {pins : List (Addr × Obj)} {σ : L2.St} {H : Hp} {s : Shared} {Q : VK} {us : List Value} {vs : List V} {dvs : List V} {ds : List Value} (F : FnOk X.prog X.w X.K X.mg X.base CX k f fd ps sp) (hr : Room (k + 1) X.A) (hb : Binds X.K fd ps ds) (hd : Vals dvs ds) (hx : Passes CX X E)
    (I : Inv X pins σ H s) (r : Vals vs us) (h : sp (vs ++ dvs) H Q E) : wpAny (model X.prog X.w) X.A.in1 (call (.ref f) us) (EP X pins σ Q) X.xe s := by
  have r2 : Vals (vs ++ dvs) (us ++ ds) := r.append hd
  have hl : (us ++ ds).length = ps.length := by rw [← r2.length]; exact F.len _ _ _ _ h
  refine wpAny_call (codeAny_mono (F.run X.A.in1 X.stack s H ⟨us, []⟩ (us ++ ds) (vs ++ dvs) Q E hr.in1 I.env0.in1 (hb s us I.kIn hl) r2 h) fun r s' hq => ?_)
  cases r with
  | error e => exact hx pins σ H s e s' I hq
  | ok fl =>
    cases fl with
    | ret u => exact I.after hq
    | next => exact False.elim hq
    | brk => exact False.elim hq
    | cont => exact False.elim hq

/-- own != y by the own ==, which answers a truth -/
def rNeOwn (K : PySem.W.Frag) (C : Addr) (sp : Sp) (E : XK) : R2 := fun x y H Q => ∃ a dx fs t, x = .ref a ∧ H a = some (.ins C dx fs) ∧ TyX K H y t ∧ PySem.W.notFirst K C t = true ∧ sp [x, y] H (fun v H' => ∃ b, v = .bl b ∧ Q (.bl (!b)) H') E
theorem op_neOwn (o : OwnOp X.K C f "__eq__") (hne : PySem.W.findIn X.K (.ref C) "__ne__" = some (some (.builtin "object.__ne__"))) (hob : PySem.W.subIn X.K (.ref C) (.type "object") = some true)
    (F : FnOk X.prog X.w X.K X.mg X.base CX k f fd ps sp) (hr : Room (k + 1) X.A) (hb : Binds X.K fd ps []) (hx : Passes CX X E) : OpR X (compareOp .NotEq) (rNeOwn X.K C sp E) := by
  intro pins s σ H x y v u Q I rx ry h
  obtain ⟨a, dx, fs, t, rfl, ha, ty, nf, h⟩ := h
  obtain rfl : v = Value.ref a := rx
  obtain ⟨od, J⟩ := inst_of I ha
  obtain ⟨P, Z, p, _⟩ := kit_of I ry ty
  unfold compareOp
  refine cmp_ne_own (hu_of hr.toRoom) I.kIn J (Z.ty _ _ I.kIn p) nf hne hob o.at_ o.fn (wpAny_mono (run_fn1 (us := [.ref a, u]) (vs := [.ref a, y]) F hr hb .nil hx I (.cons rfl (.cons ry .nil)) h) (fun z s' q => ?_) fun _ _ e => e)
  obtain ⟨v, H', I', r, b, rfl, q⟩ := q
  obtain rfl : z = Value.bool b := r
  exact ⟨b, rfl, .bl (!b), H', I', rfl, q⟩
/-- // by any divisor but 0, below 2 ^ 9000 in size -/
def CDivX (_ j : Int) : Prop := j ≠ 0 ∧ j.natAbs.log2 < 9000
theorem op_fdivX : OpR X (binaryOp .FloorDiv) (rI CDivX fun i j => .int (i.fdiv j)) := opI fun i j _ _ _ _ _ hc q => floordiv_int hc.1 q (.inl (PyProof.noPylong_of_log2 hc.2))
end

/-! ### o.m(.., k = v, ..) -/
def tMethN (C : Addr) (m : Str) (n mk : Nat) (sp : Sp) (gV : List V → List V → List V) (E : XK) (ta : TE) (t tk : TA) : TE := fun σ H Q => ta σ H fun x H1 => ∃ a dx fs, x = .ref a ∧ H1 a = some (.ins C dx fs) ∧ fs.lookup m = none ∧
  t σ H1 fun vs H2 => tk σ H2 fun zs H3 => vs.length = n ∧ zs.length = mk ∧ sp (gV (x :: vs) zs) H3 Q E
section
variable {X : Cx} {CX : CXT} {k n : Nat} {f C : Addr} {fd : FuncData} {ps ks : List Str} {sp : Sp} {E : XK} {m : Str} {p pos apos : Pos} {e o : Expr} {es : List Expr} {kws : List Keyword} {ta : TE} {t tk : TA} {g : List Value → List Value → List Value} {gV : List V → List V → List V}
end
end SL

set_option Elab.async false
set_option linter.all false
set_option maxRecDepth 100000
set_option maxHeartbeats 4000000
namespace SL
open PySem L2 PySem.Spec PyProof.Rows

/-! ### steps of a reading: each lemma is a rule from the goal's head -/
section go
variable {K : PySem.W.Frag} {D : Ends} {σ : L2.St} {H : Hp} {Q : VK} {te ta tb tv : TE} {t t1 t2 : TS} {tt uu : TT} {tA : TA} {tr : TA} {v x y : V} {i j : Nat} {r : R2} {g : TG} {E : XK}
theorem go_seq (h : t1 { D with nx := t2 D } σ H) : tSeq t1 t2 D σ H := h
theorem go_next (h : D.nx σ H) : tNext D σ H := h
theorem go_asg (h : te σ H fun x H1 => g x σ H1 D.nx) : tAsg te g D σ H := h
theorem go_gname {Q : L2.St → Hp → Prop} (h : Q (σ.set i (some v)) H) : gName i v σ H Q := h
theorem go_ret (h : te σ H D.rt) : tRet te D σ H := h
theorem go_drop (h : te σ H fun _ H1 => D.nx σ H1) : tDrop te D σ H := h
theorem go_ifs {c : TT} (h : c σ H fun b H1 => if b = true then t1 D σ H1 else t2 D σ H1) : tIfS c t1 t2 D σ H := h
theorem go_var (e : σ[i]? = some (some v)) (h : Q v H) : tVar i σ H Q := ⟨v, e, h⟩
theorem go_c (h : Q v H) : tC v σ H Q := h
theorem go_op (h : ta σ H fun x H1 => tb σ H1 fun y H2 => r x y H2 Q) : tOp r ta tb σ H Q := h
theorem go_un {r : V → Hp → VK → Prop} (h : ta σ H fun x H1 => r x H1 Q) : tUn r ta σ H Q := h
theorem go_I0 {g : Int → Int → V} {i j : Int} (h : Q (g i j) H) : rI0 g (.int i) (.int j) H Q := ⟨i, j, rfl, rfl, h⟩
theorem go_U {g : Int → V} {i : Int} (h : Q (g i) H) : rU g (.int i) H Q := ⟨i, rfl, h⟩
theorem go_test {Q : Bool → Hp → Prop} (h : te σ H fun x H' => ∃ k, x = .bl k ∧ Q k H') : tTest te σ H Q := h
theorem go_tb {Q : Bool → Hp → Prop} (h : te σ H fun x H' => ∃ k, x = .bl k ∧ Q k H') : tB te σ H Q := h
theorem go_bl {b : Bool} {R : Bool → Prop} (h : R b) : ∃ k, V.bl b = .bl k ∧ R k := ⟨b, rfl, h⟩
theorem go_eqI {i j : Int} (h : Q (.bl (decide (i = j))) H) : rEq (.int i) (.int j) H Q := by
  refine ⟨rfl, ?_⟩
  rw [show decide (V.int i = V.int j) = decide (i = j) by rw [dec_int]; by_cases e : i = j <;> simp [e]]
  exact h
theorem go_neI {i j : Int} (h : Q (.bl (!decide (i = j))) H) : rNe (.int i) (.int j) H Q := by
  refine ⟨rfl, ?_⟩
  rw [show decide (V.int i = V.int j) = decide (i = j) by rw [dec_int]; by_cases e : i = j <;> simp [e]]
  exact h
theorem go_eqB {i j : Bool} (h : Q (.bl (decide (i = j))) H) : rEq (.bl i) (.bl j) H Q := by
  refine ⟨rfl, ?_⟩
  rw [show decide (V.bl i = V.bl j) = decide (i = j) by rw [dec_bl]; cases i <;> cases j <;> rfl]
  exact h
theorem go_neB {i j : Bool} (h : Q (.bl (!decide (i = j))) H) : rNe (.bl i) (.bl j) H Q := by
  refine ⟨rfl, ?_⟩
  rw [show decide (V.bl i = V.bl j) = decide (i = j) by rw [dec_bl]; cases i <;> cases j <;> rfl]
  exact h
theorem go_eqS {i j : Str} (h : Q (.bl (decide (i = j))) H) : rEq (.str i) (.str j) H Q := by
  refine ⟨rfl, ?_⟩
  rw [show decide (V.str i = V.str j) = decide (i = j) by by_cases e : i = j <;> simp [e]]
  exact h
theorem go_neS {i j : Str} (h : Q (.bl (!decide (i = j))) H) : rNe (.str i) (.str j) H Q := by
  refine ⟨rfl, ?_⟩
  rw [show decide (V.str i = V.str j) = decide (i = j) by by_cases e : i = j <;> simp [e]]
  exact h
theorem go_and {Q : Bool → Hp → Prop} (h : tt σ H fun c H1 => if c = true then uu σ H1 Q else Q false H1) : tAnd tt uu σ H Q := h
theorem go_or {Q : Bool → Hp → Prop} (h : tt σ H fun c H1 => if c = true then Q true H1 else uu σ H1 Q) : tOr tt uu σ H Q := h
theorem go_not {Q : Bool → Hp → Prop} (h : tt σ H fun c H1 => Q (!c) H1) : tNot tt σ H Q := h
theorem go_andV (h : ta σ H fun x H1 => ∃ c, x = .bl c ∧ if c = true then tb σ H1 Q else Q (.bl false) H1) : tAndV ta tb σ H Q := h
theorem go_orV (h : ta σ H fun x H1 => ∃ c, x = .bl c ∧ if c = true then Q (.bl true) H1 else tb σ H1 Q) : tOrV ta tb σ H Q := h
theorem go_notV (h : ta σ H fun x H1 => ∃ c, x = .bl c ∧ Q (.bl (!c)) H1) : tNotV ta σ H Q := h
theorem go_if (h : tt σ H fun c H1 => if c = true then ta σ H1 Q else tb σ H1 Q) : tIf tt ta tb σ H Q := h
theorem go_T {A B : Prop} (h : A) : if true = true then A else B := iteT h
theorem go_F {A B : Prop} (h : B) : if false = true then A else B := iteF h
theorem go_nT {A B : Prop} (h : B) : if (!true) = true then A else B := iteF h
theorem go_nF {A B : Prop} (h : A) : if (!false) = true then A else B := iteT h
theorem go_nil {Q : List V → Hp → Prop} (h : Q [] H) : tNil σ H Q := h
theorem go_cons {Q : List V → Hp → Prop} (h : te σ H fun x H1 => tr σ H1 fun xs H2 => Q (x :: xs) H2) : tCons te tr σ H Q := h
theorem go_call {sp : Sp} {dvs : List V} (h : tA σ H fun vs H1 => sp (vs ++ dvs) H1 Q E) : tCall sp dvs E tA σ H Q := h
theorem go_cb {r : List V → Hp → VK → Prop} (h : tA σ H fun vs H1 => r vs H1 Q) : tCB r tA σ H Q := h
theorem go_par {i j : Nat} (h : tA σ H fun vs H1 => ∃ v w, vs = [v, w] ∧ D.nx ((σ.set i (some v)).set j (some w)) H1) : tPar i j tA D σ H := h
theorem go_pair {a b : V} {P : V → V → Prop} (h : P a b) : ∃ v w, [a, b] = [v, w] ∧ P v w := ⟨a, b, rfl, h⟩
end go

/-! ### heaps that grow -/
theorem Same.at {H H' : Hp} {a : Addr} {o : HO} (e : L2.Same H H') (h : H a = some o) : H' a = some o := e a o h
theorem Same.new {H : Hp} {p : Addr} {o : HO} (h : H p = none) : L2.Same H (upd H p o) := fun a u e => by rw [upd_ne (ne_of_none e h)]; exact e
theorem Same.new' {H H' : Hp} {p : Addr} {o : HO} (h : H p = none) (q : upd H p o = H') : L2.Same H H' := q ▸ Same.new h
theorem at_new {H H' : Hp} {p : Addr} {o : HO} (q : upd H p o = H') : H' p = some o := q ▸ upd_same
theorem szL {n : Nat} (h : n ≤ 1000) : n ≤ sizeLine := Nat.le_of_lt (small1000 h)
section go2
variable {K : PySem.W.Frag} {D : Ends} {σ : L2.St} {H : Hp} {Q : VK} {te ta tb tv : TE} {tA : TA} {v x y : V} {i j : Nat} {E : XK}
theorem go_tup (h : tA σ H fun xs H1 => xs.length ≤ sizeLine ∧ ∀ p, H1 p = none → Q (.ref p) (upd H1 p (.tup xs))) : tTup tA σ H Q := h
theorem go_lst (h : tA σ H fun xs H1 => xs.length ≤ sizeLine ∧ ∀ p, H1 p = none → Q (.ref p) (upd H1 p (.lst xs))) : tLst tA σ H Q := h
theorem go_for {wi : TI} {g : TG} {tb : TS} (h : wi σ H fun J H1 => ∃ W : Nat → Nat → L2.St → Hp → Prop, (∃ m, W 0 m σ H1) ∧ ∀ i m σ H, W i m σ H →
  (J.stop i H ∧ D.nx σ H) ∨ (J.go i H ∧ ∃ N : L2.St → Hp → Prop, (∀ σ' H', N σ' H' → ∃ m', m' < m ∧ W (i + 1) m' σ' H') ∧ ∀ x H', J.yld i H x H' → g x σ H' fun σ2 H2 => tb { D with nx := N, ct := N, bk := D.nx } σ2 H2)) : tFor wi g tb D σ H := h
theorem go_iList {tl : TE} {R : It → Hp → Prop} (h : tl σ H fun x H1 => ∃ a, x = .ref a ∧ (∃ xs, SqL K H1 a xs) ∧ R (Itl K a) H1) : iList K tl σ H R := h
theorem go_iTup {tl : TE} {R : It → Hp → Prop} (h : tl σ H fun x H1 => ∃ a, x = .ref a ∧ (∃ xs, SqT K H1 a xs) ∧ R (Itt K a) H1) : iTup K tl σ H R := h
theorem go_iRng1 {R : It → Hp → Prop} (h : tA σ H fun vs H1 => ∃ j : Int, vs = [.int j] ∧ -(2 ^ 62) ≤ j ∧ j < 2 ^ 62 ∧ R (Itr 0 j.toNat) H1) : iRng1 tA σ H R := h
theorem go_iRng2 {R : It → Hp → Prop} (h : tA σ H fun vs H1 => ∃ i j : Int, vs = [.int i, .int j] ∧ (-(2 ^ 62) ≤ i ∧ i < 2 ^ 62 ∧ -(2 ^ 62) ≤ j ∧ j < 2 ^ 62) ∧ R (Itr i (j - i).toNat) H1) : iRng2 tA σ H R := h
theorem go_lc {wi : TI} {g : TG} {tt : TT} {vs : List Nat} (h : wi σ H fun J H1 => ∀ D, H1 D = none → ∃ W : Nat → Nat → Hp → Prop, (∃ m, W 0 m (upd H1 D (.lst []))) ∧ ∀ i m H, W i m H →
  (J.stop i H ∧ Q (.ref D) H) ∨ (J.go i H ∧ ∃ Nx : Hp → Prop, (∀ H', Nx H' → ∃ m', m' < m ∧ W (i + 1) m' H') ∧ ∀ x H', J.yld i H x H' → g x (wipe σ vs) H' fun σ2 H2 => wipe σ2 vs = wipe σ vs ∧ tt σ2 H2 fun b H3 =>
    if b = true then te σ2 H3 fun y H4 => ∃ acc, H4 D = some (.lst acc) ∧ acc.length < sizeLine ∧ Nx (upd H4 D (.lst (acc ++ [y]))) else Nx H3)) : tLc wi g tt te vs σ H Q := h
theorem go_yes {Q : Bool → Hp → Prop} (h : Q true H) : tYes σ H Q := h
/-- o.f of a class that is told -/
def tFldC (C : Addr) (ta : TE) (f : Str) : TE := fun σ H Q => ta σ H fun x H1 => ∃ a dx fs v, x = .ref a ∧ H1 a = some (.ins C dx fs) ∧ fs.lookup f = some v ∧ Q v H1
/-- o.f = e of a class that is told -/
def sFldC (C : Addr) (ta tv : TE) (f : Str) : TS := fun D σ H => tv σ H fun y H1 => ta σ H1 fun x H2 => ∃ a dx fs, x = .ref a ∧ H2 a = some (.ins C dx fs) ∧ fs.length < 1000 ∧ D.nx σ (upd H2 a (.ins C dx (putF f y fs)))
theorem go_fldC {C : Addr} {f : Str} (h : ta σ H fun x H1 => ∃ a dx fs v, x = .ref a ∧ H1 a = some (.ins C dx fs) ∧ fs.lookup f = some v ∧ Q v H1) : tFldC C ta f σ H Q := h
theorem go_sfld {C : Addr} {f : Str} (h : tv σ H fun y H1 => ta σ H1 fun x H2 => ∃ a dx fs, x = .ref a ∧ H2 a = some (.ins C dx fs) ∧ fs.length < 1000 ∧ D.nx σ (upd H2 a (.ins C dx (putF f y fs)))) : sFldC C ta tv f D σ H := h
theorem go_sub {to ti : TE} {t : TSet} {Q : L2.St → Hp → Prop} (h : to σ H fun o H1 => ti σ H1 fun i H2 => t o i v H2 fun H3 => Q σ H3) : gSub to ti t v σ H Q := h
theorem go_sl {r : V → Option Int → Option Int → Hp → VK → Prop} {tl th : TO} (h : te σ H fun x H1 => tl σ H1 fun l H2 => th σ H2 fun u H3 => r x l u H3 Q) : tSl r te tl th σ H Q := h
theorem go_noPart {Q : Option Int → Hp → Prop} (h : Q none H) : tNoPart σ H Q := h
theorem go_part {Q : Option Int → Hp → Prop} (h : te σ H fun x H1 => ∃ i, x = .int i ∧ Q (some i) H1) : tPart te σ H Q := h
theorem go_partE {i : Int} {R : Int → Prop} (h : R i) : ∃ j, V.int i = .int j ∧ R j := ⟨i, rfl, h⟩
def rAbs : List V → Hp → VK → Prop := fun xs H Q => ∃ i, xs = [.int i] ∧ Q (.int (if i < 0 then -i else i)) H
def rMax2 : List V → Hp → VK → Prop := fun xs H Q => ∃ i j, xs = [.int i, .int j] ∧ Q (.int (if j > i then j else i)) H
def rMin2 : List V → Hp → VK → Prop := fun xs H Q => ∃ i j, xs = [.int i, .int j] ∧ Q (.int (if j < i then j else i)) H
def rInt1 : List V → Hp → VK → Prop := fun xs H Q => (∃ i, xs = [.int i] ∧ Q (.int i) H) ∨ ∃ k, xs = [.bl k] ∧ Q (.int (if k then 1 else 0)) H
theorem go_abs {i : Int} (h : Q (.int (if i < 0 then -i else i)) H) : rAbs [.int i] H Q := ⟨i, rfl, h⟩
theorem go_max2 {i j : Int} (h : Q (.int (if j > i then j else i)) H) : rMax2 [.int i, .int j] H Q := ⟨i, j, rfl, h⟩
theorem go_min2 {i j : Int} (h : Q (.int (if j < i then j else i)) H) : rMin2 [.int i, .int j] H Q := ⟨i, j, rfl, h⟩
theorem go_int {i : Int} (h : Q (.int i) H) : rInt1 [.int i] H Q := .inl ⟨i, rfl, h⟩
theorem go_intB {k : Bool} (h : Q (.int (if k then 1 else 0)) H) : rInt1 [.bl k] H Q := .inr ⟨k, rfl, h⟩
theorem go_bm {T : String} {r : V → List V → Hp → VK → Prop} (h : ta σ H fun x H1 => tyV K T x H1 ∧ tA σ H1 fun xs H2 => r x xs H2 Q) : tBM K T r ta tA σ H Q := h
theorem go_meth {C : Addr} {m : Str} {sp : Sp} {dvs : List V} (h : ta σ H fun x H1 => ∃ a dx fs, x = .ref a ∧ H1 a = some (.ins C dx fs) ∧ fs.lookup m = none ∧ tA σ H1 fun vs H2 => sp (x :: (vs ++ dvs)) H2 Q E) : tMeth C m sp dvs E ta tA σ H Q := h
theorem go_methN {C : Addr} {m : Str} {n mk : Nat} {sp : Sp} {gV : List V → List V → List V} {tk : TA} (h : ta σ H fun x H1 => ∃ a dx fs, x = .ref a ∧ H1 a = some (.ins C dx fs) ∧ fs.lookup m = none ∧ tA σ H1 fun vs H2 => tk σ H2 fun zs H3 => vs.length = n ∧ zs.length = mk ∧ sp (gV (x :: vs) zs) H3 Q E) : tMethN C m n mk sp gV E ta tA tk σ H Q := h
theorem go_make {C : Addr} {sp : Sp} {dvs : List V} (h : tA σ H fun vs H1 => ∀ x dx, H1 x = none → H1 dx = none → dx ≠ x → sp (.ref x :: (vs ++ dvs)) (upd (upd H1 dx (.own x)) x (.ins C dx [])) (fun v H2 => v = .non ∧ Q (.ref x) H2) E) : tMake C sp dvs E tA σ H Q := h
theorem go_makeK {C : Addr} {n m : Nat} {sp : Sp} {gV : List V → List V → List V} {tk : TA} (h : tA σ H fun vs H1 => tk σ H1 fun zs H2 => vs.length = n ∧ zs.length = m ∧ ∀ x dx, H2 x = none → H2 dx = none → dx ≠ x → sp (gV (.ref x :: vs) zs) (upd (upd H2 dx (.own x)) x (.ins C dx [])) (fun v H3 => v = .non ∧ Q (.ref x) H3) E) : tMakeK C n m sp gV E tA tk σ H Q := h
end go2

/-! ### keywords and defaults -/
section
variable {K : PySem.W.Frag} {x qual : Str} {st : Stmt} {f : Addr} {fd : FuncData} {ps : List Str}
end
section
variable {K : PySem.W.Frag} {x qual : Str} {params : Arguments} {body : List Stmt} {scope : Scope} {dvs : List V} {f : Addr} {fd : FuncData} {ps : List Str}
theorem FunD_all (F : FunD K x qual params body scope dvs [] f fd) (hd : dvs ≠ [])
    (h : ∀ (T : Addr) (kV doc pm : Value) (an : Option Addr) (cdv ct : Value) (us its : List Value), us.length = ps.length → its.length = dvs.length →
      ∃ k, bindArgs (PySem.W.fnOf x qual params body scope (.ref T) kV doc pm an cdv ct) ⟨us, []⟩ = seqItems? (.ref T) >>= k ∧ k (some its.toArray) = pure (ps.zip us)) : Binds K fd ps [] := by
  obtain ⟨ds, h1, h2⟩ := F.binds1 (ps := ps) ps.length dvs.length hd (by omega) fun T kV doc pm an cdv ct us its l1 l2 => by
    obtain ⟨k, e1, e2⟩ := h T kV doc pm an cdv ct us its l1 l2
    refine ⟨k, e1, ?_⟩
    rw [← l2, List.drop_length, List.append_nil]
    exact e2
  rw [List.drop_length] at h1
  cases h1
  exact h2
end
end SL

set_option Elab.async false
set_option linter.all false
set_option maxRecDepth 100000
set_option maxHeartbeats 4000000
namespace SL
open PySem L2 PySem.Spec PyProof.Rows

/-! ### str(own), str(int), str(text) -/
section
variable {X : Cx} {CX : CXT} {k : Nat} {f C : Addr} {fd : FuncData} {ps : List Str} {sp : Sp} {E : XK}
def rStrS : List V → Hp → VK → Prop := fun xs H Q => ∃ a, xs = [.str a] ∧ Q (.str a) H
theorem op_addSt : OpR X (binaryOp .Add) rAddS := op_add_str
/-! ### comparisons of texts -/
def rLtS : R2 := fun x y H Q => ∃ i j, x = .str i ∧ y = .str j ∧ Q (.bl (decide (i.cps.toList < j.cps.toList))) H
def rLeS : R2 := fun x y H Q => ∃ i j, x = .str i ∧ y = .str j ∧ Q (.bl (!decide (j.cps.toList < i.cps.toList))) H
def rGtS : R2 := fun x y H Q => ∃ i j, x = .str i ∧ y = .str j ∧ Q (.bl (decide (j.cps.toList < i.cps.toList))) H
def rGeS : R2 := fun x y H Q => ∃ i j, x = .str i ∧ y = .str j ∧ Q (.bl (!decide (i.cps.toList < j.cps.toList))) H
theorem op_ltS : OpR X (compareOp .Lt) rLtS := op_lt_str
theorem op_leS : OpR X (compareOp .LtE) rLeS := op_le_str
theorem op_gtS : OpR X (compareOp .Gt) rGtS := op_gt_str
theorem op_geS : OpR X (compareOp .GtE) rGeS := op_ge_str
/-! ### texts made of parts -/
def tJ (ts : List TE) : TE := fun σ H Q => tJs ts Str.empty σ H fun out H1 => Q (.str out) H1
def rJoin (K : PySem.W.Frag) : V → List V → Hp → VK → Prop := fun x xs H Q => ∃ a p, ∃ ys : List Str, x = .str a ∧ xs = [.ref p] ∧ (SqL K H p (ys.map V.str) ∨ SqT K H p (ys.map V.str)) ∧
    (ys.map (·.length)).sum + ys.length * a.length ≤ 16777216 ∧ Q (.str (Txt.join a ys)) H
theorem mt_joinX : MtR X "str.join" (rJoin X.K) := mt_join
/-! ### tuple(..) -/
theorem _root_.L2.Room.units1 {A : Around} (r : L2.Room k A) : A.units + 1 < cLine := by have := r.un; omega
end

/-! ### steps -/
section
variable {K : PySem.W.Frag} {D : Ends} {σ : L2.St} {H : Hp} {Q : VK} {te ta tb tc tv to : TE} {tA : TA} {v x y : V} {i j : Nat} {E : XK}
theorem go_strS {z : Str} (h : Q (.str z) H) : rStrS [.str z] H Q := ⟨z, rfl, h⟩
theorem go_ltS {z z' : Str} (h : Q (.bl (decide (z.cps.toList < z'.cps.toList))) H) : rLtS (.str z) (.str z') H Q := ⟨z, z', rfl, rfl, h⟩
theorem go_leS {z z' : Str} (h : Q (.bl (!decide (z'.cps.toList < z.cps.toList))) H) : rLeS (.str z) (.str z') H Q := ⟨z, z', rfl, rfl, h⟩
theorem go_chain {r r' : R2} (h : ta σ H fun x H1 => tb σ H1 fun y H2 => r x y H2 fun z H3 => ∃ k, z = .bl k ∧ (if k = true then tc σ H3 fun w' H4 => r' y w' H4 Q else Q (.bl false) H3)) : tChain r r' ta tb tc σ H Q := h
theorem go_j {ts : List TE} (h : tJs ts Str.empty σ H fun out H1 => Q (.str out) H1) : tJ ts σ H Q := h
theorem go_js0 {acc : Str} {R : Str → Hp → Prop} (h : R acc H) : tJs [] acc σ H R := h
theorem go_js {ts : List TE} {acc : Str} {R : Str → Hp → Prop} (h : te σ H fun x H1 => ∃ y : Str, x = .str y ∧ (acc ++ y).length ≤ sizeLine ∧ tJs ts (acc ++ y) σ H1 R) : tJs (te :: ts) acc σ H R := h
theorem go_fmt (h : te σ H fun x H1 => (∃ y : Str, x = .str y ∧ y.length ≤ sizeLine ∧ Q (.str y) H1) ∨ ∃ i : Int, x = .int i ∧ i.natAbs.log2 < 1920 ∧ Q (.str (toString i)) H1) : tFmt te σ H Q := h
theorem go_m1 {r : V → List V → Hp → VK → Prop} (h : to σ H fun x H1 => (∃ a, x = .str a) ∧ te σ H1 fun y H2 => r x [y] H2 Q) : tM1 r to te σ H Q := h
theorem go_iStr {R : It → Hp → Prop} (h : te σ H fun v H1 => ∃ x, v = .str x ∧ R (Its x) H1) : iStr te σ H R := h
theorem go_iZip {R : It → Hp → Prop} (h : tA σ H fun vs H1 => ∃ a b xs ys, vs = [.ref a, .ref b] ∧ SqL K H1 a xs ∧ SqL K H1 b ys ∧ R (Itz K a b) H1) : iZip K tA σ H R := h
theorem go_iKeys {R : It → Hp → Prop} (h : te σ H fun x H1 => ∃ d o, x = .ref d ∧ ((∃ kvs, H1 d = some (.frz o (.dK kvs)) ∧ R (Itk d o kvs) H1) ∨ ∃ kvs, H1 d = some (.frz o (.dT kvs)) ∧ R (Itkt d o kvs) H1)) : iKeys te σ H R := h
theorem go_dget (h : ta σ H fun x H1 => tb σ H1 fun y H2 => ∃ a v, x = .ref a ∧ DGet H2 a y (some v) ∧ Q v H2) : tDGet ta tb σ H Q := h
theorem go_dc {wi : TI} {g : TG} {tt : TT} {tk : TE} {vs : List Nat} (h : wi σ H fun J H1 => ∀ D, H1 D = none → ∃ W : Nat → Nat → Hp → Prop, (∃ m, W 0 m (upd H1 D (.dK []))) ∧ ∀ i m H, W i m H →
  (J.stop i H ∧ Q (.ref D) H) ∨ (J.go i H ∧ ∃ Nx : Hp → Prop, (∀ H', Nx H' → ∃ m', m' < m ∧ W (i + 1) m' H') ∧ ∀ x H', J.yld i H x H' → g x (wipe σ vs) H' fun σ2 H2 => wipe σ2 vs = wipe σ vs ∧ tt σ2 H2 fun b H3 =>
    if b = true then tk σ2 H3 fun y H4 => tv σ2 H4 fun z H5 => ∃ kvs k, y = kV k ∧ H5 D = some (.dK kvs) ∧ kvs.length < sizeLine ∧ Nx (upd H5 D (.dK (putK kvs k z))) else Nx H3)) : tDc wi g tt tk tv vs σ H Q := h
end

/-! ### comprehensions over heaps that only grow -/
section
variable {J : It} {n : Nat} {G : Hp → Prop} {Y : Nat → Hp → V → Hp → Prop} {g : TG} {tt : TT} {te tk tv : TE} {vs : List Nat} {σ : L2.St} {H1 : Hp} {Qd : Addr → Hp → Prop}
end
end SL

set_option Elab.async false
set_option linter.all false
set_option maxRecDepth 100000
set_option maxHeartbeats 4000000
/-! SLX: errors of the program: made and raised, caught, asked for their classes and what they keep -/
namespace SL
open PySem L2 PySem.Spec PyProof.Rows
/-! ### a class whose __init__ keeps its one argument under its name -/
def xA (n : Str) (p1 p2 : Pos) : Arguments := ⟨[], [⟨"self", none, p1⟩, ⟨n, none, p2⟩], none, [], [], none, []⟩
def xB (n : Str) (q1 q2 q3 q4 : Pos) : List Stmt := [.Assign [.Attribute (.Name "self" q1) n q2] (.Name n q3) q4]
def xS (n : Str) : Scope := { kind := .function, names := [("self", .local), (n, .local)], isGenerator := false, isCoroutine := false, more := [] }
structure XC (K : PySem.W.Frag) (C fI : Addr) (n : Str) : Prop where
  base : ∃ B newId initId bmB, ExcBaseFacts B newId initId bmB ∧ StoreFacts B bmB "object.__setattr__" "object" ∧ PySem.W.excInitIn K C bmB newId = true ∧ PySem.W.excOver K C bmB = true
  sa : PySem.W.findIn K (.ref C) "__setattr__" = some (some (.builtin "object.__setattr__"))
  hd : PySem.W.hasDictIn K C = true
  no : PySem.W.findIn K (.ref C) n = some none
  ini : PySem.W.findIn K (.ref C) "__init__" = some (some (.ref fI))
  fn : PySem.W.typeIn K (.ref fI) = some (.type "function")
  kp : PySem.W.keepIn K (.ref C) = true
  bx : PySem.W.subIn K (.ref C) (.type "BaseException") = some true
  ty : PySem.W.typeIn K (.ref C) = some (.type "type")
  txt : ∃ (qual : Str) (oc : Value) (od : Option Addr) (doc pm : Value) (an : Option Addr) (cdv ct : Value) (osl : Array (Option Value)) (p1 p2 q1 q2 q3 q4 : Pos),
    K.lookup fI = some ⟨oc, od, .func (PySem.W.fnOf "__init__" qual (xA n p1 p2) (xB n q1 q2 q3 q4) (xS n) .none .none doc pm an cdv ct), osl⟩ ∧ PySem.W.codeIn K cdv qual = true
/-- what the attribute's name must be -/
structure XN (n : Str) : Prop where
  ns : n ≠ "self"
  nd : (n == ("__debug__" : Str)) = false
  bd : ∀ (qual : Str) (p1 p2 : Pos) (body : List Stmt) (doc pm : Value) (an : Option Addr) (cdv ct a b : Value), bindArgs (PySem.W.fnOf "__init__" qual (xA n p1 p2) body (xS n) .none .none doc pm an cdv ct) ⟨[a, b], []⟩ = pure [(("self" : Str), a), (n, b)]
theorem xn_value : XN "value" := ⟨by decide, by decide, fun _ _ _ _ _ _ _ _ _ _ _ => rfl⟩
theorem xn_index : XN "index" := ⟨by decide, by decide, fun _ _ _ _ _ _ _ _ _ _ _ => rfl⟩
theorem xn_given : XN "given" := ⟨by decide, by decide, fun _ _ _ _ _ _ _ _ _ _ _ => rfl⟩
theorem xn_weights : XN "weights" := ⟨by decide, by decide, fun _ _ _ _ _ _ _ _ _ _ _ => rfl⟩
theorem xn_limit : XN "limit" := ⟨by decide, by decide, fun _ _ _ _ _ _ _ _ _ _ _ => rfl⟩
section
variable {prog : Program} {w : World} {A : Around} {E : Value → Shared → Prop} {R : Result → Shared → Prop} {s : Shared} {K : PySem.W.Frag} {C fI : Addr} {n : Str}
open Builtin Builtin.ObjectAttr in
/-- self.n = v, the first one -/
theorem x_set {Q : Unit → Shared → Prop} {x : Addr} {fv : Array Value} {v : Value} (T : XC K C fI n) (X : K.In s.heap) (hx : s.heap.get? x = some { cls := .ref C, data := .fields fv })
    (h : ∀ h' tk dx, (∀ b o, b ≠ x → s.heap.get? b = some o → h'.get? b = some o) → s.heap.objs.size ≤ dx → dx ≠ x → h'.get? x = some { cls := .ref C, dict := some dx, data := .fields fv } → h'.Ns1 dx (fun y => if y = n then some v else none) → Q () { s with heap := h', toks := tk }) :
    wpAny (model prog w) A (setAttr (.ref x) n v) Q E s := by
  obtain ⟨B, newId, initId, bmB, FB, SF, hi, ho⟩ := T.base
  have J : PySem.W.InstAt s.heap x { cls := .ref C, data := .fields fv } C none := ⟨hx, rfl, rfl, trivial⟩
  have tk0 : PySem.W.takerIn K C n = some none := by unfold PySem.W.takerIn; rw [T.no]; rfl
  obtain ⟨cd, hc, hh⟩ := PySem.W.any_some T.hd
  obtain ⟨hp, g, d, t, os⟩ := s
  refine PySem.W.set_plain X J T.sa ?_
  refine PySem.W.osa_openX (s := ⟨hp, g, d, t + 1, os⟩) SF X J ho tk0 fun b => ?_
  have hcl : PySem.W.Looks (model prog w) hp (classData C) cd := PySem.W.looks_clsIn X hc
  have ne : x ≠ hp.objs.size := Nat.ne_of_lt (Heap.lt_size hx)
  obtain ⟨nm, bs, mro, ns, qn, hdd, sn, sb, ab, col, del⟩ := cd
  dsimp only at hh
  subst hh
  unfold storeInOwnDict ownDictForStores
  repeat (first | with_reducible refine PySem.HandSPX.store_in_new ?_ ?_ | with_reducible refine wpAny_loadPart_at hx ?_ | with_reducible refine hcl.at ?_ | wp_step)
  · exact ⟨_, #[], _, (Heap.get?_update_ne _ _ _ _ ne.symm).trans (Heap.get?_push_at rfl rfl), rfl, fun e z => absurd z (by simp), fun _ => rfl⟩
  · intro h' tk' hn hsb
    have hx1 : (hp.push { cls := .type "dict", data := .dict #[] }).get? x = some { cls := .ref C, data := .fields fv } := Heap.get?_push_of_some _ hx
    exact h h' tk' hp.objs.size (fun b o hb z => (hsb.2 b (Nat.ne_of_lt (Heap.lt_size z))).trans ((Heap.get?_update_ne _ _ _ _ hb).trans (Heap.get?_push_of_some _ z))) (Nat.le_refl _) ne.symm ((hsb.2 x ne).trans (Heap.get?_update_self _ hx1 rfl)) hn
theorem x_name {M : Model} {qual : Str} {L f : Addr} {cd : Value} {m : Str → Option Value} {x : Str} {pos : Pos} {v : Value} {Q : Value → Shared → Prop} (hn : s.heap.Ns L m) (hv : m x = some v) (h : Q v s) (hl : (xS n).names.lookup x = some .local) (hd : (x == ("__debug__" : Str)) = false) :
    wpAny M A (eval (.Name x pos) (envOfC qual (xS n) L f cd)) Q E s := wpAny_Name (wpAny_loadName_local rfl hl hn hv h) hd
end
section
variable {X : Cx} {C fI : Addr} {n x : Str} {e : Expr} {ta : TA} {p pos pos' : Pos}
end
end SL

set_option Elab.async false
set_option linter.all false
set_option maxRecDepth 100000
set_option maxHeartbeats 4000000
/-! SLX2: a try whose one clause takes all that comes -/
namespace SL
open PySem L2 PySem.Spec PyProof.Rows
section
variable {X : Cx} {n : Str} {m : Value → Bool} {t : Expr} {i : Nat} {body suite : List Stmt} {b₀ : Stmt} {pos pos' : Pos} {tb : WX → TS} {ts : Addr → Value → Option Addr → TS}
end
end SL

set_option Elab.async false
set_option linter.all false
set_option maxRecDepth 100000
set_option maxHeartbeats 4000000
/-! SLX3: a def that is called with the caught error, while it is handled -/
namespace SL
open PySem L2 PySem.Spec PyProof.Rows
section
variable {k : Nat} {A : Around}
end
/-- what such a def promises -/
abbrev SpX := Value → Option Addr → Hp → VK → Prop
section
variable {P : Program} {w : World} {K : PySem.W.Frag} {mg : Str → Option Value} {base : Heap} {x qual e : Str} {f : Addr} {fd : FuncData} {N : List Str} {k : Nat} {sp : SpX}
end
/-! ### isinstance, attributes -/
/-- what a class of errors must tell -/
structure XA (K : PySem.W.Frag) (C : Addr) : Prop where
  hd : PySem.W.hasDictIn K C = true
  ga : PySem.W.findIn K (.ref C) "__getattribute__" = some (some (.builtin "BaseException.__getattribute__"))
  gg : PySem.W.findIn K (.ref C) "__getattr__" = some none
  bx : PySem.W.subIn K (.ref C) (.type "BaseException") = some true
  ca : PySem.W.findIn K (.ref C) "__class__" = some (some (.builtin "object.__class__"))
  cn : PySem.W.specialIn K (.builtin "object.__class__") "__get__" = some (some (.builtin "getset_descriptor.__get__"))
  ct : PySem.W.takesIn K (.builtin "object.__class__") = some true
  mo : PySem.W.mroIn K C (.type "object") = some true
section
variable {X : Cx} {a C d : Addr} {oe : Obj} {n : Str} {e : Expr} {te : TE} {pos : Pos}
end
/-! ### g(e), in the suite -/
section
variable {X : Cx} {a f : Addr} {oe : Obj} {cls : Value} {d : Option Addr} {pn : List (Addr × Obj)} {x e : Str} {k i : Nat} {fd : FuncData} {sp : SpX} {p p2 pos : Pos}
end
end SL

set_option Elab.async false
set_option linter.all false
set_option maxRecDepth 100000
set_option maxHeartbeats 4000000
/-! SLX9: objects of the classes of errors as values: made by place and by name, asked for classes and attributes -/
namespace SL
open PySem L2 PySem.Spec PyProof.Rows
section
open Builtin
variable {M : Model} {prog : Program} {w : World} {A : Around} {E : Value → Shared → Prop} {R : Result → Shared → Prop} {hp : Heap} {gs : Array GenState} {dr : Drawn} {tk : Nat} {os : OsState}
variable {nm qn : Str} {C N : Addr} {bs bm bB : List Value} {hd : Bool} {sn : List Str} {sb : List Value} {ab : Bool} {co : Option Bool} {dd : Option Addr} {u0 u1 u2 u3 u5 : Option Value} {B nw it : String} {kw : List (Str × Value)} {xs : List Value}
theorem xk_check (F : ExcBaseFacts B nw it bB) (hT : ∀ y : String, bm.contains (.type y) = bB.contains (.type y)) {Q : Unit → Shared → Prop}
    (hC : hp.get? C = some (excClassObj nm qn C N bs bm hd sn sb ab co dd u0 u1 u2 u3 u5 nw)) (q : Q () ⟨hp, gs, dr, tk, os⟩) : wpAny M A (checkBuiltinCall nw ⟨.ref C :: xs, kw⟩) Q E ⟨hp, gs, dr, tk, os⟩ := by
  have c1 : (Value.ref C :: bm).contains (.type B) = true := by rw [List.contains_cons, hT, F.hasB, Bool.or_true]
  have c2 := F.noStar
  simp only [checkBuiltinCall, F.newKind, F.newSplit, F.newRow]
  repeat (first | refine wpAny_loadPart_at hC ?_ | (refine wpAny_isSubtype_exc hC ?_; rw [c1]) | refine wpAny_staticBase_exc hC ?_ | refine wpAny_madeBy_exc hC ?_ | simp only [bne_self_eq_false, Bool.false_eq_true, if_false] | wp_step)
  exact q
theorem xk_new (F : ExcBaseFacts B nw it bB) (hT : ∀ y : String, bm.contains (.type y) = bB.contains (.type y)) (hC : hp.get? C = some (excClassObj nm qn C N bs bm hd sn sb ab co dd u0 u1 u2 u3 u5 nw))
    (q : R (.ok (.ret (.ref (hp.objs.size + 1)))) ⟨(hp.push (PySem.W.kdv_tup xs)).push (PySem.HandSPX.excO C hp.objs.size), gs, dr, tk, os⟩) (hl : xs.length ≤ sizeLine) :
    codeAny (model prog w) A (.builtin nw ⟨.ref C :: xs, kw⟩) R ⟨hp, gs, dr, tk, os⟩ := by
  have f1 := F.ends
  have c1 : (Value.ref C :: bm).contains (.type B) = true := by rw [List.contains_cons, hT, F.hasB, Bool.or_true]
  have c2 : (Value.ref C :: bm).contains (.type "AttributeError") = false := by rw [List.contains_cons, hT, F.noAttr]; rfl
  have c3 : (Value.ref C :: bm).contains (.type "NameError") = false := by rw [List.contains_cons, hT, F.noName]; rfl
  refine codeAny_builtinAt F.entry ?_
  unfold Builtin.«BaseException.__new__»
  refine PySem.wpAt_bind ?_
  show PySem.wpAt _ _ _ (stack >>= _) _ _ _
  refine PySem.wpAt_bind (PySem.wpAt_stack fun p below => PySem.wpAt_of_wpAny ?_)
  wp_walk
  refine PySem.wpAt_of_wpAny ?_
  rw [F.owner]
  repeat (first | with_reducible refine wpAny_madeHere_exc F.canon hC ?_ | with_reducible refine wpAny_loadPart_at hC ?_ | (with_reducible refine wpAny_isSubtype_exc hC ?_; first | rw [c1] | rw [c2] | rw [c3]) | wp_step)
  show R _ _
  rw [Heap.size_push]
  exact q
theorem xk_type {fI : Addr} {Q : PySem.Fin → Shared → Prop} (F : ExcBaseFacts B nw it bB) (hT : ∀ y : String, bm.contains (.type y) = bB.contains (.type y))
    (hC : hp.get? C = some (excClassObj nm qn C N bs bm hd sn sb ab co dd u0 u1 u2 u3 u5 nw)) (hi : PySem.W.Looks (model prog w) hp (typeLookup (.ref C) "__init__") (some (.ref fI)))
    (hb : ∀ y, PySem.W.Looks (model prog w) hp (bindSpecial (.ref fI) y) (.ref fI, [y])) (hl : xs.length ≤ sizeLine)
    (q : codeAny (model prog w) A (.call (.ref fI) ⟨.ref (hp.objs.size + 1) :: xs, kw⟩)
      (fun r z => match r with | .ok (.ret v) => v = .none ∧ Q (.done (.ret (.ref (hp.objs.size + 1)))) z | .ok _ => False | .error e => E e z)
      ⟨(hp.push (PySem.W.kdv_tup xs)).push (PySem.HandSPX.excO C hp.objs.size), gs, dr, tk, os⟩) :
    wpAny (model prog w) A (Builtin.«type.__call__» ⟨.ref C :: xs, kw⟩) Q E ⟨hp, gs, dr, tk, os⟩ := by
  repeat (first | with_reducible refine wpAny_loadPart_at hC ?_ | with_reducible refine wpAny_madeBy_exc hC ?_ | wp_step)
  refine codeAny_call_builtin_code (Code.quiet_builtin _ F.quiet) (xk_check F hT hC ?_)
  refine xk_new F hT hC ?_ hl
  show wpAny _ _ _ _ _ _
  have k : ∀ b o, hp.get? b = some o → ((hp.push (PySem.W.kdv_tup xs)).push (PySem.HandSPX.excO C hp.objs.size)).get? b = some o := fun b o z => Heap.get?_push_of_some _ (Heap.get?_push_of_some _ z)
  have hC1 := k _ _ hC
  have hg : ((hp.push (PySem.W.kdv_tup xs)).push (PySem.HandSPX.excO C hp.objs.size)).get? (hp.objs.size + 1) = some (PySem.HandSPX.excO C hp.objs.size) := by heap_get
  have hcc : (Value.ref C :: bm).contains (.ref C) = true := by simp
  have i1 := hi.keeps k
  have b1 := (hb (.ref (hp.objs.size + 1))).keeps k
  unfold isInstance
  repeat (first | with_reducible refine wpAny_loadPart_at hg ?_ | (with_reducible refine wpAny_isSubtype_exc hC1 ?_; rw [hcc]) | wp_step)
  show wpAny _ _ (typeLookup (.ref C) _) _ _ _
  refine i1.at ?_
  refine wpAny_holding (wpAny_bind (b1.at ?_))
  refine wpAny_bind (wpAny_call (codeAny_mono q fun r z x => ?_))
  rcases r with e | (v | _ | _ | _) <;> first | exact x | exact x.elim | skip
  obtain ⟨rfl, x⟩ := x
  first
    | exact wpAny_pure (wpAny_pure x)
    | (wp_walk; exact x)
theorem xk_call {fI : Addr} (F : ExcBaseFacts B nw it bB) (hT : ∀ y : String, bm.contains (.type y) = bB.contains (.type y))
    (hC : hp.get? C = some (excClassObj nm qn C N bs bm hd sn sb ab co dd u0 u1 u2 u3 u5 nw)) (hi : PySem.W.Looks (model prog w) hp (typeLookup (.ref C) "__init__") (some (.ref fI)))
    (hb : ∀ y, PySem.W.Looks (model prog w) hp (bindSpecial (.ref fI) y) (.ref fI, [y])) (hl : xs.length ≤ sizeLine)
    (q : codeAny (model prog w) (A.under (.builtin "type.__call__" ⟨.ref C :: xs, kw⟩)) (.call (.ref fI) ⟨.ref (hp.objs.size + 1) :: xs, kw⟩) (PySem.W.InitBack (hp.objs.size + 1) R)
      ⟨(hp.push (PySem.W.kdv_tup xs)).push (PySem.HandSPX.excO C hp.objs.size), gs, dr, tk, os⟩) :
    codeAny (model prog w) A (.call (.ref C) ⟨xs, kw⟩) R ⟨hp, gs, dr, tk, os⟩ := by
  have f1 := tc_lookup
  have f2 := tc_bind (.ref C)
  have hTy : (⟨hp, gs, dr, tk, os⟩ : Shared).TypeIs (.ref C) "type" := ⟨_, hC, rfl⟩
  refine codeAny_of_tree ?_
  show wpAny _ _ (callAny (.ref C) _) _ _ _
  repeat (any_goals (first | assumption | with_reducible refine wpAny_loadPart_at hC ?_ | wp_step))
  refine ⟨rfl, ?_⟩
  refine codeAny_call_builtin_at (Code.quiet_builtin _ (by decide +kernel)) entry_typeCall (wpAny_check_type_call_sub hC (xk_type F hT hC hi hb hl ?_))
  refine codeAny_mono q fun r z x => ?_
  rcases r with e | (v | _ | _ | _) <;> exact x
end
/-- an object of a class of errors, made: its attributes -/
structure XVal (h h' : Heap) (e C : Addr) (ns : List Str) (vs : List Value) : Prop where
  keep : ∀ b o, h.get? b = some o → h'.get? b = some o
  eb : h.get? e = none
  ex : ∃ (t1 : Addr) (dd : Option Addr), h'.get? e = some { cls := .ref C, dict := dd, data := .fields #[.ref t1, .none, .none, .none, .bool false, .none] } ∧
    ((dd = none ∧ ns = []) ∨ ∃ d, dd = some d ∧ h.objs.size ≤ d ∧ d ≠ e ∧ h'.Ns1 d (fun y => (ns.zip vs).lookup y))
/-- the call C(us, kw) makes such an object -/
def XMk (K : PySem.W.Frag) (C : Addr) (ns : List Str) (us : List Value) (kw : List (Str × Value)) (vs : List Value) : Prop :=
  ∀ (prog : Program) (w : World) (A : Around) (Q E : Value → Shared → Prop) (s : Shared), K.In s.heap → s.heap.NoLimit → A.depth + 2 < recursionLimit →
    (∀ h' tk e, XVal s.heap h' e C ns vs → Q (.ref e) { s with heap := h', toks := tk }) → wpAny (model prog w) A (call (.ref C) us kw) Q E s
section
variable {prog : Program} {w : World} {A : Around} {E : Value → Shared → Prop} {R : Result → Shared → Prop} {s : Shared} {K : PySem.W.Frag} {C fI : Addr} {n : Str}
/-- __init__ of a class with one attribute, called in any way -/
theorem xv_init {x t0 : Addr} {v : Value} {a : Args} (T : XC K C fI n) (N : XN n) (X : K.In s.heap) (hlim : s.heap.NoLimit) (hx : s.heap.get? x = some (PySem.HandSPX.excO C t0)) (hr : A.depth < recursionLimit)
    (hb : ∀ (qual : Str) (p1 p2 : Pos) (body : List Stmt) (doc pm : Value) (an : Option Addr) (cdv ct : Value), bindArgs (PySem.W.fnOf "__init__" qual (xA n p1 p2) body (xS n) .none .none doc pm an cdv ct) a = pure [(("self" : Str), .ref x), (n, v)])
    (hq : ∀ h' tk dx, (∀ b o, b ≠ x → s.heap.get? b = some o → h'.get? b = some o) → s.heap.objs.size ≤ dx → dx ≠ x → h'.get? x = some { cls := .ref C, dict := some dx, data := .fields #[.ref t0, .none, .none, .none, .bool false, .none] } → h'.Ns1 dx (fun y => if y = n then some v else none) → R (.ok (.ret .none)) { s with heap := h', toks := tk }) :
    codeAny (model prog w) A (.call (.ref fI) a) R s := by
  obtain ⟨qual, oc, od, doc, pm, an, cdv, ct, osl, p1, p2, q1, q2, q3, q4, ho, hcd⟩ := T.txt
  have ns2 : (n == ("self" : Str)) = false := beq_eq_false_iff_ne.mpr N.ns
  have ls : (xS n).names.lookup ("self" : Str) = some .local := rfl
  have ln : (xS n).names.lookup n = some .local := by
    show List.lookup n [(("self" : Str), NameKind.local), (n, NameKind.local)] = _
    simp [List.lookup, ns2]
  refine Att.call_fn (binds := [("self", .ref x), (n, v)]) X hlim ho hcd hr (BindsTo.of_eq (hb ..)) (by simp [ls, ln]) (fun s1 IC => ?_) rfl rfl rfl
  obtain ⟨h1, tk1, rfl⟩ := IC.toInCall.same
  have k : ∀ b o, s.heap.get? b = some o → h1.get? b = some o := IC.toInCall.keep
  have hn := IC.toInCall.ns
  have l1 : (envOfC qual (xS n) s.heap.objs.size fI cdv).kindOf n = some .local := ln
  have l2 : (envOfC qual (xS n) s.heap.objs.size fI cdv).kindOf "self" = some .local := ls
  have e1 : bindL (envOfC qual (xS n) s.heap.objs.size fI cdv).kindOf [("self", Value.ref x), (n, v)] (fun _ => none) n = some v := by simp [bindL, l1, N.ns]
  have e2 : bindL (envOfC qual (xS n) s.heap.objs.size fI cdv).kindOf [("self", Value.ref x), (n, v)] (fun _ => none) "self" = some (.ref x) := by simp [bindL, l1, l2, Ne.symm N.ns]
  show wpAny _ _ (execs (xB n q1 q2 q3 q4) _) _ _ _
  refine wpAny_execs_cons (plainObj_wpAny_Assign_Attribute (x_name hn e1 (x_name hn e2 ?_ ls (by decide)) ln N.nd))
  refine x_set T (X.keeps k) (k _ _ hx) fun h3 tk3 dx k3 hb ne ho3 hn3 => ?_
  have z : s.heap.objs.size < h1.objs.size := hn.lt
  exact wpAny_execs_nil (hq h3 tk3 dx (fun b o hb e => k3 b o hb (k b o e)) (Nat.le_of_lt (Nat.lt_of_lt_of_le z hb)) ne ho3 hn3)
theorem xv_made {us : List Value} {kw : List (Str × Value)} {v : Value} (T : XC K C fI n) (N : XN n) (hl : us.length ≤ 2)
    (hb : ∀ (x : Addr) (qual : Str) (p1 p2 : Pos) (body : List Stmt) (doc pm : Value) (an : Option Addr) (cdv ct : Value), bindArgs (PySem.W.fnOf "__init__" qual (xA n p1 p2) body (xS n) .none .none doc pm an cdv ct) ⟨.ref x :: us, kw⟩ = pure [(("self" : Str), .ref x), (n, v)]) :
    XMk K C [n] us kw [v] := by
  intro prog w A Q E s X hlim hr hq
  obtain ⟨B, newId, initId, bmB, FB, SF, hi, ho⟩ := T.base
  obtain ⟨nm, N', qn, bs, bm, hdct, sn, sub, ab, col, dd, k0, k1, k2, k3, k5, hC, hT⟩ := PySem.W.excInit_of X hi
  obtain ⟨hp, g, dr, tk, os⟩ := s
  have old : ∀ b o, hp.get? b = some o → ((hp.push (PySem.W.kdv_tup us)).push (PySem.HandSPX.excO C hp.objs.size)).get? b = some o := fun b o z => Heap.get?_push_of_some _ (Heap.get?_push_of_some _ z)
  have new : ((hp.push (PySem.W.kdv_tup us)).push (PySem.HandSPX.excO C hp.objs.size)).get? (hp.objs.size + 1) = some (PySem.HandSPX.excO C hp.objs.size) := by heap_get
  refine wpAny_call (xk_call FB hT hC (PySem.W.looks_findIn X T.ini) (fun self => PySem.W.bind_fn X self T.fn) (by rw [sizeLine_eq]; omega) ?_)
  refine xv_init (v := v) (s := ⟨(hp.push (PySem.W.kdv_tup us)).push (PySem.HandSPX.excO C hp.objs.size), g, dr, tk, os⟩) T N (X.keeps old) (hlim.keeps old) new (Nat.lt_of_succ_lt hr) (hb _) fun h' tk' dx k' hb ne ho' hns => ?_
  have sz : hp.objs.size + 1 + 1 ≤ dx := by
    first
      | (simpa only [Heap.size_push] using hb)
      | exact hb
  exact ⟨rfl, hq h' tk' (hp.objs.size + 1) ⟨fun b o z => k' b o (Nat.ne_of_lt (Nat.lt_succ_of_lt (Heap.lt_size z))) (old b o z), Heap.get?_none_of_le (Nat.le_succ _), _, _, ho', .inr ⟨dx, rfl, (show hp.objs.size ≤ dx by omega), ne, by
    have e : (fun y => if y = n then some v else none) = (fun y => (List.zip [n] [v]).lookup y) := by
      funext y
      by_cases z : y = n
      · subst z; simp [List.lookup]
      · simp [List.lookup, z, beq_eq_false_iff_ne.mpr z]
    rw [← e]; exact hns⟩⟩⟩
/-! a class without an __init__ of its own -/
theorem xv_made0 {B newId initId : String} {bmB : List Value} (F : ExcBaseFacts B newId initId bmB) (q : PySem.W.excIn K C bmB newId = true) : XMk K C [] [] [] [] := by
  intro prog w A Q E s X hlim hr hq
  obtain ⟨bm, N, nm, qn, bs, hdct, sn, sub, ab, col, dd, k0, k1, k2, k3, k5, mN, hC, hN, hni, T⟩ := exc_obj X q
  refine wpAny_call_exc_subT F T hC hN hni (fun h' e hm => ?_) (Nat.zero_le _)
  obtain ⟨t, ht, _, _⟩ := hm.there
  exact hq h' s.toks e ⟨hm.keeps, hm.new, t, none, ht, .inl ⟨rfl, rfl⟩⟩
/-! a class with two attributes: move and shown -/
def yA (p1 p2 p3 : Pos) : Arguments := ⟨[], [⟨"self", none, p1⟩, ⟨"move", none, p2⟩, ⟨"shown", none, p3⟩], none, [], [], none, []⟩
def yB (q1 q2 q3 q4 q5 q6 q7 q8 : Pos) : List Stmt := [.Assign [.Attribute (.Name "self" q1) "move" q2] (.Name "move" q3) q4, .Assign [.Attribute (.Name "self" q5) "shown" q6] (.Name "shown" q7) q8]
def yS : Scope := { kind := .function, names := [("self", .local), ("move", .local), ("shown", .local)], isGenerator := false, isCoroutine := false, more := [] }
structure XCb (K : PySem.W.Frag) (C fI : Addr) : Prop where
  base : ∃ B newId initId bmB, ExcBaseFacts B newId initId bmB ∧ StoreFacts B bmB "object.__setattr__" "object" ∧ PySem.W.excInitIn K C bmB newId = true ∧ PySem.W.excOver K C bmB = true
  sa : PySem.W.findIn K (.ref C) "__setattr__" = some (some (.builtin "object.__setattr__"))
  hd : PySem.W.hasDictIn K C = true
  no1 : PySem.W.findIn K (.ref C) "move" = some none
  no2 : PySem.W.findIn K (.ref C) "shown" = some none
  ini : PySem.W.findIn K (.ref C) "__init__" = some (some (.ref fI))
  fn : PySem.W.typeIn K (.ref fI) = some (.type "function")
  txt : ∃ (qual : Str) (oc : Value) (od : Option Addr) (doc pm : Value) (an : Option Addr) (cdv ct : Value) (osl : Array (Option Value)) (p1 p2 p3 q1 q2 q3 q4 q5 q6 q7 q8 : Pos),
    K.lookup fI = some ⟨oc, od, .func (PySem.W.fnOf "__init__" qual (yA p1 p2 p3) (yB q1 q2 q3 q4 q5 q6 q7 q8) yS .none .none doc pm an cdv ct), osl⟩ ∧ PySem.W.codeIn K cdv qual = true
open Builtin Builtin.ObjectAttr in
/-- self.n = v, the first one -/
theorem y_set1 {Q : Unit → Shared → Prop} {x : Addr} {fv : Array Value} {v : Value} (T : XCb K C fI) (no : PySem.W.findIn K (.ref C) n = some none) (X : K.In s.heap) (hx : s.heap.get? x = some { cls := .ref C, data := .fields fv })
    (h : ∀ h' tk dx, (∀ b o, b ≠ x → s.heap.get? b = some o → h'.get? b = some o) → s.heap.objs.size ≤ dx → dx ≠ x → h'.get? x = some { cls := .ref C, dict := some dx, data := .fields fv } → h'.Ns1 dx (fun y => if y = n then some v else none) → Q () { s with heap := h', toks := tk }) :
    wpAny (model prog w) A (setAttr (.ref x) n v) Q E s := by
  obtain ⟨B, newId, initId, bmB, FB, SF, hi, ho⟩ := T.base
  have J : PySem.W.InstAt s.heap x { cls := .ref C, data := .fields fv } C none := ⟨hx, rfl, rfl, trivial⟩
  have tk0 : PySem.W.takerIn K C n = some none := by unfold PySem.W.takerIn; rw [no]; rfl
  obtain ⟨cd, hc, hh⟩ := PySem.W.any_some T.hd
  obtain ⟨hp, g, d, t, os⟩ := s
  refine PySem.W.set_plain X J T.sa ?_
  refine PySem.W.osa_openX (s := ⟨hp, g, d, t + 1, os⟩) SF X J ho tk0 fun b => ?_
  have hcl : PySem.W.Looks (model prog w) hp (classData C) cd := PySem.W.looks_clsIn X hc
  have ne : x ≠ hp.objs.size := Nat.ne_of_lt (Heap.lt_size hx)
  obtain ⟨nm, bs, mro, ns, qn, hdd, sn, sb, ab, col, del⟩ := cd
  dsimp only at hh
  subst hh
  unfold storeInOwnDict ownDictForStores
  repeat (first | with_reducible refine PySem.HandSPX.store_in_new ?_ ?_ | with_reducible refine wpAny_loadPart_at hx ?_ | with_reducible refine hcl.at ?_ | wp_step)
  · exact ⟨_, #[], _, (Heap.get?_update_ne _ _ _ _ ne.symm).trans (Heap.get?_push_at rfl rfl), rfl, fun e z => absurd z (by simp), fun _ => rfl⟩
  · intro h' tk' hn hsb
    have hx1 : (hp.push { cls := .type "dict", data := .dict #[] }).get? x = some { cls := .ref C, data := .fields fv } := Heap.get?_push_of_some _ hx
    exact h h' tk' hp.objs.size (fun b o hb z => (hsb.2 b (Nat.ne_of_lt (Heap.lt_size z))).trans ((Heap.get?_update_ne _ _ _ _ hb).trans (Heap.get?_push_of_some _ z))) (Nat.le_refl _) ne.symm ((hsb.2 x ne).trans (Heap.get?_update_self _ hx1 rfl)) hn
open Builtin Builtin.ObjectAttr in
/-- a further one -/
theorem y_set2 {Q : Unit → Shared → Prop} {x dx : Addr} {fv : Array Value} {v : Value} {m0 : Str → Option Value} {nl : List Str} (T : XCb K C fI) (no : PySem.W.findIn K (.ref C) n = some none) (X : K.In s.heap)
    (hx : s.heap.get? x = some { cls := .ref C, dict := some dx, data := .fields fv }) (hns : s.heap.Ns1 dx m0) (hw : PySem.Within m0 nl) (hz : nl.length ≤ 1000)
    (h : ∀ h' tk, (∀ b o, b ≠ dx → s.heap.get? b = some o → h'.get? b = some o) → h'.Ns1 dx (fun y => if y = n then some v else m0 y) → Q () { s with heap := h', toks := tk }) :
    wpAny (model prog w) A (setAttr (.ref x) n v) Q E s := by
  obtain ⟨B, newId, initId, bmB, FB, SF, hi, ho⟩ := T.base
  obtain ⟨oD, esD, epD, hoD, hdD, _⟩ := hns.count hw
  have J : PySem.W.InstAt s.heap x { cls := .ref C, dict := some dx, data := .fields fv } C (some oD) := ⟨hx, rfl, rfl, hoD⟩
  have tk0 : PySem.W.takerIn K C n = some none := by unfold PySem.W.takerIn; rw [no]; rfl
  obtain ⟨cd, hc, hh⟩ := PySem.W.any_some T.hd
  obtain ⟨hp, g, d, t, os⟩ := s
  refine PySem.W.set_plain X J T.sa ?_
  refine PySem.W.osa_openX (s := ⟨hp, g, d, t + 1, os⟩) SF X J ho tk0 fun b => ?_
  have hcl : PySem.W.Looks (model prog w) hp (classData C) cd := PySem.W.looks_clsIn X hc
  obtain ⟨nm, bs, mro, ns, qn, hdd, sn, sb, ab, col, del⟩ := cd
  dsimp only at hh
  subst hh
  unfold storeInOwnDict ownDictForStores
  repeat (first | with_reducible refine PySem.OEX.store_in_old hns hw hz ?_ | with_reducible refine wpAny_loadPart_at hx ?_ | with_reducible refine hcl.at ?_ | wp_step)
  intro h' tk' hn hsb
  exact h h' tk' (fun b o hb z => (hsb.2 b hb).trans z) hn
theorem y_name {M : Model} {qual : Str} {L f : Addr} {cd : Value} {m : Str → Option Value} {x : Str} {pos : Pos} {v : Value} {Q : Value → Shared → Prop} (hn : s.heap.Ns L m) (hv : m x = some v) (h : Q v s) (hl : yS.names.lookup x = some .local) (hd : (x == ("__debug__" : Str)) = false) :
    wpAny M A (eval (.Name x pos) (envOfC qual yS L f cd)) Q E s := wpAny_Name (wpAny_loadName_local rfl hl hn hv h) hd
theorem y_init {x t0 : Addr} {v v2 : Value} {a : Args} (T : XCb K C fI) (hK : ∀ o, K.lookup x ≠ some o) (X : K.In s.heap) (hlim : s.heap.NoLimit) (hx : s.heap.get? x = some (PySem.HandSPX.excO C t0)) (hr : A.depth < recursionLimit)
    (hb : ∀ (qual : Str) (p1 p2 p3 : Pos) (body : List Stmt) (doc pm : Value) (an : Option Addr) (cdv ct : Value), bindArgs (PySem.W.fnOf "__init__" qual (yA p1 p2 p3) body yS .none .none doc pm an cdv ct) a = pure [(("self" : Str), .ref x), ("move", v), ("shown", v2)])
    (hq : ∀ h' tk dx, (∀ b o, b ≠ x → s.heap.get? b = some o → h'.get? b = some o) → s.heap.objs.size ≤ dx → dx ≠ x → h'.get? x = some { cls := .ref C, dict := some dx, data := .fields #[.ref t0, .none, .none, .none, .bool false, .none] } →
      h'.Ns1 dx (fun y => if y = "shown" then some v2 else if y = "move" then some v else none) → R (.ok (.ret .none)) { s with heap := h', toks := tk }) :
    codeAny (model prog w) A (.call (.ref fI) a) R s := by
  obtain ⟨qual, oc, od, doc, pm, an, cdv, ct, osl, p1, p2, p3, q1, q2, q3, q4, q5, q6, q7, q8, ho, hcd⟩ := T.txt
  refine Att.call_fn (binds := [("self", .ref x), ("move", v), ("shown", v2)]) X hlim ho hcd hr (BindsTo.of_eq (hb ..)) (by rfl) (fun s1 IC => ?_) rfl rfl rfl
  obtain ⟨h1, tk1, rfl⟩ := IC.toInCall.same
  have k : ∀ b o, s.heap.get? b = some o → h1.get? b = some o := IC.toInCall.keep
  have hn := IC.toInCall.ns
  have e0 : bindL (envOfC qual yS s.heap.objs.size fI cdv).kindOf [("self", Value.ref x), ("move", v), ("shown", v2)] (fun _ => none) "self" = some (.ref x) := rfl
  have e1 : bindL (envOfC qual yS s.heap.objs.size fI cdv).kindOf [("self", Value.ref x), ("move", v), ("shown", v2)] (fun _ => none) "move" = some v := rfl
  have e2 : bindL (envOfC qual yS s.heap.objs.size fI cdv).kindOf [("self", Value.ref x), ("move", v), ("shown", v2)] (fun _ => none) "shown" = some v2 := rfl
  show wpAny _ _ (execs (yB q1 q2 q3 q4 q5 q6 q7 q8) _) _ _ _
  refine wpAny_execs_cons (plainObj_wpAny_Assign_Attribute (y_name hn e1 (y_name hn e0 ?_ rfl (by decide)) rfl (by decide)))
  refine y_set1 T T.no1 (X.keeps k) (k _ _ hx) fun h3 tk3 dx k3 hb3 ne ho3 hn3 => ?_
  have z : s.heap.objs.size < h1.objs.size := hn.lt
  obtain ⟨oL, esL, epL, hoL, hrL⟩ := id hn
  have hn' : h3.Ns s.heap.objs.size (bindL (envOfC qual yS s.heap.objs.size fI cdv).kindOf [("self", Value.ref x), ("move", v), ("shown", v2)] (fun _ => none)) := ⟨oL, esL, epL, k3 _ _ (fun e => absurd (Heap.lt_size hx) (by rw [← e]; exact Nat.lt_irrefl _)) hoL, hrL⟩
  refine wpAny_execs_cons (plainObj_wpAny_Assign_Attribute (y_name (s := { heap := h3, gens := s.gens, drawn := s.drawn, toks := tk3, os := s.os }) hn' e2 (y_name hn' e0 ?_ rfl (by decide)) rfl (by decide)))
  have kC : ∀ b o, b ≠ x → s.heap.get? b = some o → h3.get? b = some o := fun b o hb e => k3 b o hb (k b o e)
  have KX : K.In h3 := fun b o e => kC b o (fun z => hK o (z ▸ e)) (X b o e)
  refine y_set2 (s := { heap := h3, gens := s.gens, drawn := s.drawn, toks := tk3, os := s.os }) (nl := ["move"]) T T.no2 KX ho3 hn3 (Within.cons "move" v Within.nil) (by decide) fun h4 tk4 k4 hn4 => ?_
  have zb : s.heap.objs.size ≤ dx := Nat.le_of_lt (Nat.lt_of_lt_of_le z hb3)
  exact wpAny_execs_nil (hq h4 tk4 dx (fun b o hb e => k4 b o (fun e2 => absurd (Heap.lt_size e) (by rw [e2]; exact Nat.not_lt.mpr zb)) (kC b o hb e)) zb ne (k4 _ _ ne.symm ho3) hn4)
theorem y_made {us : List Value} {kw : List (Str × Value)} {v v2 : Value} (T : XCb K C fI) (hl : us.length ≤ 2)
    (hb : ∀ (x : Addr) (qual : Str) (p1 p2 p3 : Pos) (body : List Stmt) (doc pm : Value) (an : Option Addr) (cdv ct : Value), bindArgs (PySem.W.fnOf "__init__" qual (yA p1 p2 p3) body yS .none .none doc pm an cdv ct) ⟨.ref x :: us, kw⟩ = pure [(("self" : Str), .ref x), ("move", v), ("shown", v2)]) :
    XMk K C ["move", "shown"] us kw [v, v2] := by
  intro prog w A Q E s X hlim hr hq
  obtain ⟨B, newId, initId, bmB, FB, SF, hi, ho⟩ := T.base
  obtain ⟨nm, N', qn, bs, bm, hdct, sn, sub, ab, col, dd, k0, k1, k2, k3, k5, hC, hT⟩ := PySem.W.excInit_of X hi
  obtain ⟨hp, g, dr, tk, os⟩ := s
  have old : ∀ b o, hp.get? b = some o → ((hp.push (PySem.W.kdv_tup us)).push (PySem.HandSPX.excO C hp.objs.size)).get? b = some o := fun b o z => Heap.get?_push_of_some _ (Heap.get?_push_of_some _ z)
  have new : ((hp.push (PySem.W.kdv_tup us)).push (PySem.HandSPX.excO C hp.objs.size)).get? (hp.objs.size + 1) = some (PySem.HandSPX.excO C hp.objs.size) := by heap_get
  refine wpAny_call (xk_call FB hT hC (PySem.W.looks_findIn X T.ini) (fun self => PySem.W.bind_fn X self T.fn) (by rw [sizeLine_eq]; omega) ?_)
  refine y_init (v := v) (v2 := v2) (s := ⟨(hp.push (PySem.W.kdv_tup us)).push (PySem.HandSPX.excO C hp.objs.size), g, dr, tk, os⟩) T (fun o z => absurd (Heap.lt_size (X _ _ z)) (Nat.not_lt.mpr (Nat.le_succ _))) (X.keeps old) (hlim.keeps old) new (Nat.lt_of_succ_lt hr) (hb _) fun h' tk' dx k' hb ne ho' hns => ?_
  have sz : hp.objs.size + 1 + 1 ≤ dx := by
    first
      | (simpa only [Heap.size_push] using hb)
      | exact hb
  exact ⟨rfl, hq h' tk' (hp.objs.size + 1) ⟨fun b o z => k' b o (Nat.ne_of_lt (Nat.lt_succ_of_lt (Heap.lt_size z))) (old b o z), Heap.get?_none_of_le (Nat.le_succ _), _, _, ho', .inr ⟨dx, rfl, (show hp.objs.size ≤ dx by omega), ne, by
    have e : (fun y : Str => if y = "shown" then some v2 else if y = "move" then some v else none) = (fun y => (List.zip (["move", "shown"] : List Str) [v, v2]).lookup y) := by
      funext y
      by_cases z : y = "move"
      · subst z; rfl
      · by_cases z2 : y = "shown"
        · subst z2; rfl
        · simp [List.lookup, z, z2, beq_eq_false_iff_ne.mpr z, beq_eq_false_iff_ne.mpr z2]
    rw [← e]; exact hns⟩⟩⟩
end
/-! ### errors in the layer's heap -/
/-- an error, tracked: its class, its attributes -/
def EH (C : Addr) (fs : List (Str × V)) (H : Hp) (a : Addr) : Prop := ∃ oe dd, H a = some (.frz oe (.own a)) ∧ Zc (.ref C) dd oe ∧ (∃ us, oe.data = .fields us) ∧ ((dd = none ∧ fs = []) ∨ ∃ d, dd = some d ∧ H d = some (.xd fs))
theorem EH.same {C : Addr} {fs : List (Str × V)} {H H' : Hp} {a : Addr} (h : EH C fs H a) (e : L2.Same H H') : EH C fs H' a := by
  obtain ⟨oe, dd, h1, h2, h3, h4⟩ := h
  refine ⟨oe, dd, e _ _ h1, h2, h3, ?_⟩
  rcases h4 with h4 | ⟨d, h5, h6⟩
  · exact .inl h4
  · exact .inr ⟨d, h5, e _ _ h6⟩
/-- where a call leads that makes one -/
def tErr (C : Addr) (ns : List Str) (H : Hp) (vs : List V) (Q : VK) : Prop :=
  (ns = [] → ∀ a oe, H a = none → Zc (.ref C) none oe → (∃ us, oe.data = .fields us) → Q (.ref a) (upd H a (.frz oe (.own a)))) ∧
  ∀ a d oe, H a = none → H d = none → d ≠ a → Zc (.ref C) (some d) oe → (∃ us, oe.data = .fields us) → Q (.ref a) (upd (upd H d (.xd (ns.zip vs))) a (.frz oe (.own a)))
theorem relO_zip {f : Str} : ∀ {ns : List Str} {vs : List V} {us : List Value}, Vals vs us → RelO ((ns.zip vs).lookup f) ((ns.zip us).lookup f)
  | [], _, _, _ => trivial
  | _ :: _, _, _, .nil => trivial
  | n :: ns, _, _, .cons r rs => by
    show RelO (List.lookup f ((n, _) :: ns.zip _)) (List.lookup f ((n, _) :: ns.zip _))
    by_cases h : (f == n) = true
    · simp only [List.lookup, h]; exact r
    · simp only [List.lookup, Bool.not_eq_true _ ▸ h]; exact relO_zip rs
section
variable {X : Cx} {C : Addr} {pins : List (Addr × Obj)} {σ : L2.St} {H : Hp} {s : Shared} {ns : List Str} {vs : List V} {us : List Value}
theorem err_end {h' : Heap} {tk : Nat} {e : Addr} {Q : VK} (I : Inv X pins σ H s) (M : XVal s.heap h' e C ns us) (r : Vals vs us) (q : tErr C ns H vs Q) :
    EP X pins σ Q (.ref e) { s with heap := h', toks := tk } := by
  obtain ⟨t1, dd, ho, h | ⟨d, rfl, db, ne, hn⟩⟩ := M.ex
  · obtain ⟨rfl, rfl⟩ := h
    exact ⟨.ref e, _, I.laidN (t' := tk) M.keep M.eb (I.hok.gone M.eb) (o := .frz { cls := .ref C, dict := none, data := .fields #[.ref t1, .none, .none, .none, .bool false, .none] } (.own e)) ⟨ho, _, ho⟩, rfl, q.1 rfl e { cls := .ref C, dict := none, data := .fields #[.ref t1, .none, .none, .none, .bool false, .none] } (I.hok.gone M.eb) ⟨rfl, rfl⟩ ⟨_, rfl⟩⟩
  · obtain ⟨Gh, g1, g2⟩ := restrict h' fun b => decide (b ≠ e)
    have gk : ∀ b, b ≠ e → Gh.get? b = h'.get? b := fun b hb => g1 b (decide_eq_true hb)
    have ge : Gh.get? e = none := g2 e (by simp)
    have old : ∀ b o, s.heap.get? b = some o → Gh.get? b = some o := fun b o z => by
      rw [gk b (fun y => by rw [y, M.eb] at z; cases z)]; exact M.keep b o z
    have nd : H d = none := I.hok.fresh db
    have na : H e = none := I.hok.gone M.eb
    have J : Inv X pins σ (upd H d (.xd (ns.zip vs))) { s with heap := Gh, toks := tk } := I.laid (t' := tk) old db ⟨_, hn.at fun o z => (gk d ne).trans z, fun f => relO_zip r⟩
    refine ⟨.ref e, _, J.laidN (t' := tk) (o := .frz { cls := .ref C, dict := some d, data := .fields #[.ref t1, .none, .none, .none, .bool false, .none] } (.own e)) (fun b o z => ?_) ge ?_ ⟨ho, _, ho⟩, rfl, q.2 e d { cls := .ref C, dict := some d, data := .fields #[.ref t1, .none, .none, .none, .bool false, .none] } na nd ne ⟨rfl, rfl⟩ ⟨_, rfl⟩⟩
    · by_cases hb : b = e
      · rw [hb, ge] at z; cases z
      · rw [← gk b hb]; exact z
    · rw [upd_ne (Ne.symm ne)]; exact na
end
section
variable {X : Cx} {C : Addr} {ns ks : List Str} {x : Str} {e : Expr} {es : List Expr} {kws : List Keyword} {ta tk : TA} {p pos : Pos} {gU : List Value → List Value} {gV : List V → List V}
/-- C() -/
theorem pe_err0 (hm : XMk X.K C ns [] [] []) (kp : PySem.W.keepIn X.K (.ref C) = true) (hr : L2.Room 1 X.A) (hg : Gl X x) (hx : X.mg x = some (.ref C)) (hdb : (x == ("__debug__" : Str)) = false := by decide) :
    PE X (.Call (.Name x p) [] [] pos) (fun σ H Q => tErr C ns H [] Q) := ⟨fun pins s σ H Q I h => by
  refine wpAny_Call_Name_kw (ld_glob I hg hx ?_ hdb)
  exact PySem.W.callWith_K0 I.kIn kp (hm _ _ _ _ _ _ I.kIn I.nolimit (by have := hr.dp; omega) fun h' tk e M => err_end I M .nil h)⟩
/-- C(e, ..) -/
theorem pe_err (hm : ∀ us : List Value, us.length = ns.length → XMk X.K C ns us [] us) (kp : PySem.W.keepIn X.K (.ref C) = true) (hr : L2.Room 1 X.A) (hg : Gl X x) (hx : X.mg x = some (.ref C)) (ha : PA X (e :: es) ta)
    (hdb : (x == ("__debug__" : Str)) = false := by decide) (he : starEach (e :: es) X.env = (false, eval e X.env) :: starEach es X.env := by rfl) (hpl : (backTo pos (starEach es X.env)).any (·.1) = false := by rfl) :
    PE X (.Call (.Name x p) (e :: es) [] pos) (fun σ H Q => ta σ H fun vs H1 => vs.length = ns.length ∧ tErr C ns H1 vs Q) := ⟨fun pins s σ H Q I h => by
  refine wpAny_Call_Name_kw (ld_glob I hg hx ?_ hdb)
  refine PySem.W.callWith_K (h₀ := X.base) I.ok.mod.kin kp (thn (ha.run pos pins s σ H _ I h) fun us s1 ⟨vs, H1, I1, r1, l, q⟩ => ⟨I1.kIn, ?_⟩) he hpl
  exact hm us (r1.length ▸ l) _ _ _ _ _ _ I1.kIn I1.nolimit (by have := hr.dp; omega) fun h' tk e M => err_end I1 M r1 q⟩
/-- C(k = v, ..) -/
theorem pe_errK (hm : ∀ ws : List Value, ws.length = ns.length → XMk X.K C ns [] (ks.zip ws) (gU ws)) (hv : ∀ {zs : List V} {ws : List Value}, Vals zs ws → Vals (gV zs) (gU ws)) (kp : PySem.W.keepIn X.K (.ref C) = true) (hr : L2.Room 1 X.A) (hg : Gl X x) (hx : X.mg x = some (.ref C)) (hkw : PK X kws tk)
    (hall : (backToKw pos (keywordEach kws X.env)).all (·.1.isSome) = true := by rfl) (hks : (backToKw pos (keywordEach kws X.env)).filterMap (·.1) = ks := by rfl) (hdb : (x == ("__debug__" : Str)) = false := by decide)
    (hpl : ((backTo pos (starEach [] X.env)).any (·.1) || (backToKw pos (keywordEach kws X.env)).any (·.1.isNone)) = false := by rfl) :
    PE X (.Call (.Name x p) [] kws pos) (fun σ H Q => tk σ H fun zs H1 => zs.length = ns.length ∧ tErr C ns H1 (gV zs) Q) := ⟨fun pins s σ H Q I h => by
  refine wpAny_Call_Name_kw (ld_glob I hg hx ?_ hdb)
  refine PySem.W.callWith_KW0 (h₀ := X.base) I.ok.mod.kin kp hall (thn (hkw.run pos pins s σ H _ I h) fun ws s1 ⟨zs, H1, I1, rz, l2, q⟩ => ⟨I1.kIn, ?_⟩) hpl
  rw [hks]
  exact hm ws (rz.length ▸ l2) _ _ _ _ _ _ I1.kIn I1.nolimit (by have := hr.dp; omega) fun h' tk e M => err_end I1 M (hv rz) q⟩
end
/-! ### isinstance, attributes -/
section
variable {X : Cx} {C a : Addr} {n : Str} {e : Expr} {te : TE} {pos : Pos} {fs : List (Str × V)}
theorem err_inst {pins : List (Addr × Obj)} {σ : L2.St} {H : Hp} {s : Shared} (I : Inv X pins σ H s) (h : EH C fs H a) :
    ∃ oe od, PySem.W.InstAt s.heap a oe C od ∧ (fs ≠ [] → ∃ (o : Obj) (mA : Str → Option Value), od = some o ∧ (∀ f, RelO (fs.lookup f) (mA f)) ∧ ∀ y, PySem.W.lookIn y o = some (mA y)) := by
  obtain ⟨oe, dd, ha, hz, ⟨vs, hv⟩, hd⟩ := h
  obtain ⟨ho, _⟩ := (show ObjOk X.prog X.w H s.heap a (.frz oe (.own a)) from I.hok a _ ha)
  have nc : PySem.W.notCls oe = true := by unfold PySem.W.notCls; rw [hv] <;> rfl
  rcases hd with ⟨rfl, rfl⟩ | ⟨d, rfl, hd⟩
  · exact ⟨oe, none, ⟨ho, hz.1, nc, by rw [hz.2]; trivial⟩, fun z => absurd rfl z⟩
  · obtain ⟨mA, hns, hr⟩ := (show ObjOk X.prog X.w H s.heap d (.xd fs) from I.hok d _ hd)
    obtain ⟨od, ho2, hl⟩ := lookIn_ns hns
    exact ⟨oe, some od, ⟨ho, hz.1, nc, by rw [hz.2]; exact ho2⟩, fun _ => ⟨od, mA, rfl, hr, hl⟩⟩
/-- isinstance(e, c) -/
theorem call_isE : CallR X (.builtin "isinstance") (fun xs H Q => ∃ (a C : Addr) (fs : List (Str × V)) (c : V) (cv : Value) (b : Bool), xs = [.ref a, c] ∧ XA X.K C ∧ EH C fs H a ∧ (∀ u, RelV c u → u = cv) ∧ PySem.W.kitOne X.K (.ref C) cv = some b ∧ Q (.bl b) H) := by
  intro pins s σ H xs us Q I r h
  obtain ⟨a, C, fs, c, cv, b, rfl, T, he, hcv, hk, q⟩ := h
  cases r with
  | cons rx rr => cases rr with
    | cons rc rr =>
      cases rr
      cases rx
      cases hcv _ rc
      obtain ⟨oe, od, J, _⟩ := err_inst I he
      obtain ⟨cd, hc, _⟩ := PySem.W.any_some T.hd
      exact PySem.W.kia_one (PySem.W.kitx_exc (by rw [hc]; rfl) T.ga T.gg T.bx T.ca T.cn T.ct T.mo) I.kIn J hk (fun z => nomatch z) fun tk => ⟨.bl b, H, I.kept (t' := tk) fun _ _ z => z, rfl, q⟩
/-- e.n -/
theorem pe_attrE (he : PE X e te) (hb : attributeBase e n X.env (eval e X.env) = eval e X.env := by rfl) :
    PE X (.Attribute e n pos) (fun σ H Q => te σ H fun x H1 => ∃ a C fs v, x = .ref a ∧ XA X.K C ∧ PySem.W.findIn X.K (.ref C) n = some none ∧ EH C fs H1 a ∧ fs.lookup n = some v ∧ Q v H1) := ⟨fun pins s σ H Q I h => by
  refine attr_of hb (thn (he.run pins s σ H _ I h) fun u s1 hh => ?_)
  obtain ⟨x, H1, I1, rx, a, C, fs, v, ex, T, hno, hE, l, q⟩ := hh
  subst ex
  obtain rfl : u = Value.ref a := rx
  obtain ⟨oe, od, J, k⟩ := err_inst I1 hE
  obtain ⟨o, mA, rfl, hr, hl⟩ := k (by intro z; subst z; cases l)
  obtain ⟨u, hu, ru⟩ := RelO.some_of (v := v) (o := mA n) (by rw [← l]; exact hr n)
  exact HandSPX.exc_get I1.kIn J T.ga T.gg T.bx (PySem.W.findObj_own T.hd hno rfl (by rw [hl, hu])) (handed_of ru) ⟨v, H1, I1.tok _, ru, q⟩⟩
end
/-! ### what the top shows of the classes -/
theorem xc_mk {K : PySem.W.Frag} {C fI : Addr} {n : Str} {B newId initId : String} {bmB : List Value} {qual : Str} {oc doc pm cdv ct : Value} {od an : Option Addr} {osl : Array (Option Value)} {p1 p2 q1 q2 q3 q4 : Pos}
    (F : ExcBaseFacts B newId initId bmB) (S : StoreFacts B bmB "object.__setattr__" "object") (h1 : PySem.W.excInitIn K C bmB newId = true) (h2 : PySem.W.excOver K C bmB = true) (sa : PySem.W.findIn K (.ref C) "__setattr__" = some (some (.builtin "object.__setattr__"))) (hd : PySem.W.hasDictIn K C = true)
    (no : PySem.W.findIn K (.ref C) n = some none) (ini : PySem.W.findIn K (.ref C) "__init__" = some (some (.ref fI))) (fn : PySem.W.typeIn K (.ref fI) = some (.type "function")) (kp : PySem.W.keepIn K (.ref C) = true) (bx : PySem.W.subIn K (.ref C) (.type "BaseException") = some true)
    (ty : PySem.W.typeIn K (.ref C) = some (.type "type")) (lk : K.lookup fI = some ⟨oc, od, .func (PySem.W.fnOf "__init__" qual (xA n p1 p2) (xB n q1 q2 q3 q4) (xS n) .none .none doc pm an cdv ct), osl⟩) (cd : PySem.W.codeIn K cdv qual = true) : ∃ fI, XC K C fI n :=
  ⟨fI, ⟨⟨_, _, _, _, F, S, h1, h2⟩, sa, hd, no, ini, fn, kp, bx, ty, ⟨_, _, _, _, _, _, _, _, _, _, _, _, _, _, _, lk, cd⟩⟩⟩
theorem xcb_mk {K : PySem.W.Frag} {C fI : Addr} {B newId initId : String} {bmB : List Value} {qual : Str} {oc doc pm cdv ct : Value} {od an : Option Addr} {osl : Array (Option Value)} {p1 p2 p3 q1 q2 q3 q4 q5 q6 q7 q8 : Pos}
    (F : ExcBaseFacts B newId initId bmB) (S : StoreFacts B bmB "object.__setattr__" "object") (h1 : PySem.W.excInitIn K C bmB newId = true) (h2 : PySem.W.excOver K C bmB = true) (sa : PySem.W.findIn K (.ref C) "__setattr__" = some (some (.builtin "object.__setattr__"))) (hd : PySem.W.hasDictIn K C = true)
    (n1 : PySem.W.findIn K (.ref C) "move" = some none) (n2 : PySem.W.findIn K (.ref C) "shown" = some none) (ini : PySem.W.findIn K (.ref C) "__init__" = some (some (.ref fI))) (fn : PySem.W.typeIn K (.ref fI) = some (.type "function"))
    (lk : K.lookup fI = some ⟨oc, od, .func (PySem.W.fnOf "__init__" qual (yA p1 p2 p3) (yB q1 q2 q3 q4 q5 q6 q7 q8) yS .none .none doc pm an cdv ct), osl⟩) (cd : PySem.W.codeIn K cdv qual = true) : ∃ fI, XCb K C fI :=
  ⟨fI, ⟨⟨_, _, _, _, F, S, h1, h2⟩, sa, hd, n1, n2, ini, fn, ⟨_, _, _, _, _, _, _, _, _, _, _, _, _, _, _, _, _, _, _, _, lk, cd⟩⟩⟩
def xaB (K : PySem.W.Frag) (C : Addr) : Bool := PySem.W.hasDictIn K C && (PySem.W.findIn K (.ref C) "__getattribute__" == some (some (.builtin "BaseException.__getattribute__"))) && (PySem.W.findIn K (.ref C) "__getattr__" == some none) &&
  (PySem.W.subIn K (.ref C) (.type "BaseException") == some true) && (PySem.W.findIn K (.ref C) "__class__" == some (some (.builtin "object.__class__"))) && (PySem.W.specialIn K (.builtin "object.__class__") "__get__" == some (some (.builtin "getset_descriptor.__get__"))) &&
  (PySem.W.takesIn K (.builtin "object.__class__") == some true) && (PySem.W.mroIn K C (.type "object") == some true)
theorem xa_of {K : PySem.W.Frag} {C : Addr} (h : xaB K C = true) : XA K C := by
  unfold xaB at h
  simp only [Bool.and_eq_true, beq_iff_eq] at h
  obtain ⟨⟨⟨⟨⟨⟨⟨h1, h2⟩, h3⟩, h4⟩, h5⟩, h6⟩, h7⟩, h8⟩ := h
  exact ⟨h1, h2, h3, h4, h5, h6, h7, h8⟩
end SL

set_option Elab.async false
set_option linter.all false
set_option maxRecDepth 100000
set_option maxHeartbeats 4000000
/-! ### data in the layer's heap -/
namespace DY
abbrev FnOk := @SL.FnOk
abbrev Room := @SL.Room
abbrev run_fn := @SL.run_fn
abbrev run_make := @SL.run_make
abbrev run_makeN := @SL.run_makeN
abbrev pe_call := @SL.pe_call
abbrev pe_call0 := @SL.pe_call0
abbrev pe_make := @SL.pe_make
open PySem L2
def S (l : List Nat) : Str := ⟨l.toArray⟩
theorem S_inj {a b : List Nat} (h : S a = S b) : a = b := by
  have : a.toArray = b.toArray := congrArg Str.cps h
  exact List.toArray_inj this
theorem S_cps (x : Str) : S x.cps.toList = x := by cases x; rfl
def kK : Ky → Key
  | .inl i => .inl i
  | .inr l => .inr (S l)
theorem kK_inj {a b : Ky} (h : kK a = kK b) : a = b := by
  cases a <;> cases b <;> simp [kK] at h
  · rw [h]
  · rw [S_inj h]
def BT.nm : BT → String
  | .int => "int" | .bool => "bool" | .str => "str" | .tuple => "tuple" | .list => "list" | .dict => "dict" | .set => "set" | .xv => "ValueError" | .xl => "LookupError" | .xa => "ArithmeticError"
/-- the classes: where they stand, their attributes in order -/
structure CT where
  ad : Nat → Addr
  nms : Nat → List Str
  cs : List Nat
  xs : List Nat := []
variable (K : PySem.W.Frag) (A : CT)
mutual
inductive Rep (G : Hp) : V → D → Prop
  | non : Rep G .non .non
  | bl (b : Bool) : Rep G (.bl b) (.bl b)
  | int (i : Int) : Rep G (.int i) (.int i)
  | str (l : List Nat) : Rep G (.str (S l)) (.str l)
  | ty (t : BT) : Rep G (.ty t.nm) (.ty t)
  | cls (c : Nat) : c ∈ A.cs → Rep G (.ref (A.ad c)) (.cls c)
  | any (v : V) : Rep G v .any
  | lst {p : Addr} {vs : List V} {ds : List D} : G p = some (.lst vs) → Reps G vs ds → Rep G (.ref p) (.lst ds)
  | fls {p : Addr} {vs : List V} {ds : List D} : SqL K G p vs → Reps G vs ds → Rep G (.ref p) (.fls ds)
  | tup {p : Addr} {o : Obj} {vs : List V} {ds : List D} : o.dict = none → G p = some (.frz o (.tup vs)) → Reps G vs ds → Rep G (.ref p) (.tup ds)
  | emp {p : Addr} {o : Obj} {n : Nat} : K.lookup p = some o → o.cls = .type "tuple" → o.dict = none → o.data = .seq #[] n → Rep G (.ref p) (.tup [])
  | kt {p : Addr} {vs : List V} {ds : List D} : G p = some (.tup vs) → Reps G vs ds → Rep G (.ref p) (.kt ds)
  | dic {p : Addr} {kvs : List (Key × V)} {ds : List (Ky × D)} : G p = some (.dK kvs) → RepK G kvs ds → Rep G (.ref p) (.dic ds)
  | dct {p : Addr} {kvs : List (List Key × V)} {ds : List (List Ky × D)} : G p = some (.dT kvs) → RepT G kvs ds → Rep G (.ref p) (.dct ds)
  | err {p : Addr} {c : Nat} {vs : List V} {ds : List D} : SL.EH (A.ad c) ((A.nms c).zip vs) G p → vs.length = (A.nms c).length → c ∈ A.xs → Reps G vs ds → Rep G (.ref p) (.err c ds)
  | ins {p dx : Addr} {c : Nat} {vs : List V} {ds : List D} : G p = some (.ins (A.ad c) dx ((A.nms c).zip vs)) → vs.length ≤ (A.nms c).length → c ∈ A.cs → Reps G vs ds → Rep G (.ref p) (.ins c ds)
inductive Reps (G : Hp) : List V → List D → Prop
  | nil : Reps G [] []
  | cons {v : V} {d : D} {vs : List V} {ds : List D} : Rep G v d → Reps G vs ds → Reps G (v :: vs) (d :: ds)
inductive RepK (G : Hp) : List (Key × V) → List (Ky × D) → Prop
  | nil : RepK G [] []
  | cons {k : Ky} {v : V} {d : D} {vs : List (Key × V)} {ds : List (Ky × D)} : Rep G v d → RepK G vs ds → RepK G ((kK k, v) :: vs) ((k, d) :: ds)
inductive RepT (G : Hp) : List (List Key × V) → List (List Ky × D) → Prop
  | nil : RepT G [] []
  | cons {k : List Ky} {v : V} {d : D} {vs : List (List Key × V)} {ds : List (List Ky × D)} : Rep G v d → RepT G vs ds → RepT G ((k.map kK, v) :: vs) ((k, d) :: ds)
end
variable {K : PySem.W.Frag} {A : CT} {G G' G1 G2 H H' H1 H2 : Hp}
theorem sqL_same {p : Addr} {xs : List V} (e : L2.Same G G') (h : SqL K G p xs) : SqL K G' p xs := by
  rcases h with (h | ⟨o, h⟩) | h
  · exact .inl (.inl (e _ _ h))
  · exact .inl (.inr ⟨o, e _ _ h⟩)
  · exact .inr h
mutual
theorem Rep.mono (e : L2.Same G G') : ∀ {v : V} {d : D}, Rep K A G v d → Rep K A G' v d
  | _, _, .non => .non
  | _, _, .bl b => .bl b
  | _, _, .int i => .int i
  | _, _, .str l => .str l
  | _, _, .ty t => .ty t
  | _, _, .cls c h => .cls c h
  | _, _, .any v => .any v
  | _, _, .lst h r => .lst (e _ _ h) (Reps.mono e r)
  | _, _, .fls h r => .fls (sqL_same e h) (Reps.mono e r)
  | _, _, .tup n h r => .tup n (e _ _ h) (Reps.mono e r)
  | _, _, .emp a b c d => .emp a b c d
  | _, _, .kt h r => .kt (e _ _ h) (Reps.mono e r)
  | _, _, .dic h r => .dic (e _ _ h) (RepK.mono e r)
  | _, _, .dct h r => .dct (e _ _ h) (RepT.mono e r)
  | _, _, .ins h l c r => .ins (e _ _ h) l c (Reps.mono e r)
  | _, _, .err h l c r => .err (h.same e) l c (Reps.mono e r)
theorem Reps.mono (e : L2.Same G G') : ∀ {vs : List V} {ds : List D}, Reps K A G vs ds → Reps K A G' vs ds
  | _, _, .nil => .nil
  | _, _, .cons h r => .cons (Rep.mono e h) (Reps.mono e r)
theorem RepK.mono (e : L2.Same G G') : ∀ {vs : List (Key × V)} {ds : List (Ky × D)}, RepK K A G vs ds → RepK K A G' vs ds
  | _, _, .nil => .nil
  | _, _, .cons h r => .cons (Rep.mono e h) (RepK.mono e r)
theorem RepT.mono (e : L2.Same G G') : ∀ {vs : List (List Key × V)} {ds : List (List Ky × D)}, RepT K A G vs ds → RepT K A G' vs ds
  | _, _, .nil => .nil
  | _, _, .cons h r => .cons (Rep.mono e h) (RepT.mono e r)
end
theorem Reps.len {vs : List V} {ds : List D} (h : Reps K A G vs ds) : vs.length = ds.length := by
  induction vs generalizing ds with
  | nil => cases h; rfl
  | cons v vs ih => cases h with | cons _ r => rw [List.length_cons, List.length_cons, ih r]
theorem Reps.inv1 {vs : List V} {d : D} (h : Reps K A G vs [d]) : ∃ v, vs = [v] ∧ Rep K A G v d := by
  cases h with | cons a r => cases r; exact ⟨_, rfl, a⟩
theorem Reps.inv2 {vs : List V} {d e : D} (h : Reps K A G vs [d, e]) : ∃ v w, vs = [v, w] ∧ Rep K A G v d ∧ Rep K A G w e := by
  cases h with | cons a r => cases r with | cons b r => cases r; exact ⟨_, _, rfl, a, b⟩
theorem Reps.append {vs ws : List V} {ds es : List D} (h : Reps K A G vs ds) (h' : Reps K A G ws es) : Reps K A G (vs ++ ws) (ds ++ es) := by
  induction vs generalizing ds with
  | nil => cases h; exact h'
  | cons v vs ih => cases h with | cons a r => exact .cons a (ih r)
theorem Reps.get {vs : List V} {ds : List D} {i : Nat} {v : V} (h : Reps K A G vs ds) (e : vs[i]? = some v) : ∃ d, ds[i]? = some d ∧ Rep K A G v d := by
  induction vs generalizing ds i with
  | nil => simp at e
  | cons w vs ih =>
    cases h with
    | cons a r =>
      cases i with
      | zero => simp at e; subst e; exact ⟨_, rfl, a⟩
      | succ i => exact ih (i := i) r (by simpa using e)
theorem Reps.get' {vs : List V} {ds : List D} {i : Nat} {d : D} (h : Reps K A G vs ds) (e : ds[i]? = some d) : ∃ v, vs[i]? = some v ∧ Rep K A G v d := by
  induction vs generalizing ds i with
  | nil => cases h; simp at e
  | cons w vs ih =>
    cases h with
    | cons a r =>
      cases i with
      | zero => simp at e; subst e; exact ⟨_, rfl, a⟩
      | succ i => exact ih (i := i) r (by simpa using e)
theorem Reps.take {vs : List V} {ds : List D} (h : Reps K A G vs ds) (n : Nat) : Reps K A G (vs.take n) (ds.take n) := by
  induction vs generalizing ds n with
  | nil => cases h; simp; exact .nil
  | cons w vs ih =>
    cases h with
    | cons a r => cases n with
      | zero => exact .nil
      | succ n => exact .cons a (ih r n)
theorem Reps.drop {vs : List V} {ds : List D} (h : Reps K A G vs ds) (n : Nat) : Reps K A G (vs.drop n) (ds.drop n) := by
  induction vs generalizing ds n with
  | nil => cases h; simp; exact .nil
  | cons w vs ih =>
    cases h with
    | cons a r => cases n with
      | zero => exact .cons a r
      | succ n => exact ih r n
theorem Reps.set {vs : List V} {ds : List D} {v : V} {d : D} (h : Reps K A G vs ds) (hv : Rep K A G v d) (n : Nat) : Reps K A G (vs.set n v) (ds.set n d) := by
  induction vs generalizing ds n with
  | nil => cases h; simp; exact .nil
  | cons w vs ih =>
    cases h with
    | cons a r => cases n with
      | zero => exact .cons hv r
      | succ n => exact .cons a (ih r n)
/-- dicts may be walked while they are known -/
def isD : HO → Prop
  | .dK _ => True
  | .dT _ => True
  | _ => False
/-- the tables of code objects, and the names of what they tell -/
class Tb where
  T : List (Addr × Str)
  base : Hp := fun _ => none
variable [Tb]
structure Sub (G H : Hp) : Prop where
  at_ : ∀ p o, G p = some o → H p = some o ∨ (isD o ∧ ∃ ob, H p = some (.frz ob o))
  tb : LamX.Tabs Tb.T H
  nt : ∀ p ps, G p ≠ some (.tbl ps)
  bs : L2.Same Tb.base G
instance : CoeFun (Sub G H) fun _ => ∀ p o, G p = some o → H p = some o ∨ (isD o ∧ ∃ ob, H p = some (.frz ob o)) := ⟨Sub.at_⟩
/-- the heap without its tables -/
def noTb (H : Hp) : Hp := fun p => match H p with
  | some (.tbl _) => none
  | o => o
theorem noTb_ok {p : Addr} {o : HO} (h : H p = some o) (n : ∀ ps, o ≠ .tbl ps) : noTb H p = some o := by
  unfold noTb; rw [h]
  split
  · rename_i ps e; exact absurd (Option.some.inj e) (n ps)
  · rfl
theorem noTb_at {p : Addr} {o : HO} (h : noTb H p = some o) : H p = some o ∧ ∀ ps, o ≠ .tbl ps := by
  unfold noTb at h
  split at h
  · cases h
  · rename_i n; exact ⟨h, fun ps e => n ps (by rw [h, e])⟩
theorem Sub.start {H : Hp} (t : LamX.Tabs Tb.T H) (b : ∀ p, Tb.base p = none) : Sub (noTb H) H := ⟨fun _ _ h => .inl (noTb_at h).1, t, fun p ps h => (noTb_at h).2 ps rfl, fun p o h => by rw [b] at h; cases h⟩
/-- no table of code objects, none of them -/
def nT : HO → Prop
  | .tbl _ => False
  | .ext _ => False
  | _ => True
theorem nT.up {p : Addr} {o u : HO} {T : List (Addr × Str)} (h : H p = some o) (n : nT o) (t : LamX.Tabs T H) : LamX.Tabs T (upd H p u) := fun x hx => by
  obtain ⟨ps, h1, h2, h3⟩ := t x hx
  have ne : ∀ {b : Addr} {v : HO}, H b = some v → ¬ nT v → b ≠ p := fun e nv z => by
    subst z; rw [h] at e; cases e; exact nv n
  refine ⟨ps, by rw [upd_ne (ne h1 fun z => z)]; exact h1, h2, fun pos cv hc => ?_⟩
  obtain ⟨c, e1, e2⟩ := h3 pos cv hc
  exact ⟨c, e1, by rw [upd_ne (ne e2 fun z => z)]; exact e2⟩
theorem nT.new {p : Addr} {u : HO} {T : List (Addr × Str)} (h : H p = none) (t : LamX.Tabs T H) : LamX.Tabs T (upd H p u) := t.ext fun b o e => by rw [upd_ne (ne_of_none e h)]; exact e
theorem Sub.ex {p : Addr} {o : HO} (s : Sub G H) (h : G p = some o) : ∃ u, H p = some u := by
  rcases s p o h with h | ⟨_, ob, h⟩
  · exact ⟨_, h⟩
  · exact ⟨_, h⟩
theorem Sub.sqL {p : Addr} {xs : List V} (s : Sub G H) (h : SqL K G p xs) : SqL K H p xs := by
  rcases h with (h | ⟨o, h⟩) | h
  · rcases s _ _ h with h | ⟨z, _⟩
    · exact .inl (.inl h)
    · exact z.elim
  · rcases s _ _ h with h | ⟨z, _⟩
    · exact .inl (.inr ⟨o, h⟩)
    · exact z.elim
  · exact .inr h
theorem Sub.ins {p C dx : Addr} {fs : List (Str × V)} (s : Sub G H) (h : G p = some (.ins C dx fs)) : H p = some (.ins C dx fs) := by
  rcases s _ _ h with h | ⟨z, _⟩
  · exact h
  · exact z.elim
theorem Sub.lst {p : Addr} {vs : List V} (s : Sub G H) (h : G p = some (.lst vs)) : H p = some (.lst vs) := by
  rcases s _ _ h with h | ⟨z, _⟩
  · exact h
  · exact z.elim
theorem Sub.tup {p : Addr} {vs : List V} (s : Sub G H) (h : G p = some (.tup vs)) : H p = some (.tup vs) := by
  rcases s _ _ h with h | ⟨z, _⟩
  · exact h
  · exact z.elim
theorem Sub.frt {p : Addr} {o : Obj} {vs : List V} (s : Sub G H) (h : G p = some (.frz o (.tup vs))) : H p = some (.frz o (.tup vs)) := by
  rcases s _ _ h with h | ⟨z, _⟩
  · exact h
  · exact z.elim
theorem sqT_emp {p : Addr} {o : Obj} {n : Nat} (a : K.lookup p = some o) (b : o.cls = .type "tuple") (d : o.data = .seq #[] n) : SqT K H p [] := .inr ⟨o, #[], n, a, b, d, Nat.zero_le _, .nil⟩
theorem Rep.sqT {v : V} {ds : List D} (h : Rep K A G v (.tup ds)) (s : Sub G H) : ∃ p vs, v = .ref p ∧ SqT K H p vs ∧ Reps K A G vs ds := by
  cases h with
  | tup n h r => exact ⟨_, _, rfl, .inl (.inr ⟨_, s.frt h⟩), r⟩
  | emp a b c d => exact ⟨_, _, rfl, sqT_emp a b d, .nil⟩
theorem Rep.sqK {v : V} {ds : List D} (h : Rep K A G v (.kt ds)) (s : Sub G H) : ∃ p vs, v = .ref p ∧ H p = some (.tup vs) ∧ Reps K A G vs ds := by
  cases h with
  | kt h r => exact ⟨_, _, rfl, s.tup h, r⟩
theorem Sub.dK {p : Addr} {kvs : List (Key × V)} (s : Sub G H) (h : G p = some (.dK kvs)) : Rd H p (.dK kvs) := by
  rcases s _ _ h with h | ⟨_, ob, h⟩
  · exact .inl h
  · exact .inr ⟨ob, h⟩
theorem Sub.dT {p : Addr} {kvs : List (List Key × V)} (s : Sub G H) (h : G p = some (.dT kvs)) : Rd H p (.dT kvs) := by
  rcases s _ _ h with h | ⟨_, ob, h⟩
  · exact .inl h
  · exact .inr ⟨ob, h⟩
/-- an object of one's own -/
def Has (K : PySem.W.Frag) (A : CT) (G H : Hp) (p : Addr) : D → Prop
  | .lst ds => ∃ vs, H p = some (.lst vs) ∧ Reps K A G vs ds
  | .dic ds => ∃ kvs, H p = some (.dK kvs) ∧ RepK K A G kvs ds
  | .dct ds => ∃ kvs, H p = some (.dT kvs) ∧ RepT K A G kvs ds
  | .ins c ds => ∃ dx vs, H p = some (.ins (A.ad c) dx ((A.nms c).zip vs)) ∧ vs.length ≤ (A.nms c).length ∧ c ∈ A.cs ∧ Reps K A G vs ds
  | _ => False
theorem Has.nt {p : Addr} {d : D} (h : Has K A G H p d) : ∃ o, H p = some o ∧ nT o := by
  cases d with
  | lst ds => obtain ⟨vs, h, _⟩ := h; exact ⟨_, h, trivial⟩
  | dic ds => obtain ⟨vs, h, _⟩ := h; exact ⟨_, h, trivial⟩
  | dct ds => obtain ⟨vs, h, _⟩ := h; exact ⟨_, h, trivial⟩
  | ins c ds => obtain ⟨_, vs, h, _⟩ := h; exact ⟨_, h, trivial⟩
  | _ => exact h.elim
theorem Sub.nt_new {p : Addr} {o : HO} (s : Sub G H) (h : nT o) : ∀ q ps, upd G p o q ≠ some (.tbl ps) := fun q ps e => by
  by_cases z : q = p
  · rw [z, upd_same] at e; cases e; exact h
  · rw [upd_ne z] at e; exact s.nt q ps e
theorem Sub.nt_upd {p : Addr} {o : HO} (s : Sub G H1) (h : ∃ o, H p = some o ∧ nT o) (e : H p = some o) : ∀ q ps, upd G p o q ≠ some (.tbl ps) := by
  obtain ⟨o', h1, h2⟩ := h
  rw [e] at h1; cases h1
  exact s.nt_new h2
theorem Has.ex {p : Addr} {d : D} (h : Has K A G H p d) : ∃ o, H p = some o := by
  cases d with
  | lst ds => obtain ⟨vs, h, _⟩ := h; exact ⟨_, h⟩
  | dic ds => obtain ⟨vs, h, _⟩ := h; exact ⟨_, h⟩
  | dct ds => obtain ⟨vs, h, _⟩ := h; exact ⟨_, h⟩
  | ins c ds => obtain ⟨_, vs, h, _⟩ := h; exact ⟨_, h⟩
  | _ => exact h.elim
theorem Has.mono {p : Addr} {d : D} (h : Has K A G H p d) (e : L2.Same G G') (k : ∀ o, H p = some o → (∀ ps, o ≠ .tbl ps) → H' p = some o) : Has K A G' H' p d := by
  cases d with
  | lst ds => obtain ⟨vs, h, r⟩ := h; exact ⟨vs, k _ h (fun _ z => nomatch z), r.mono e⟩
  | dic ds => obtain ⟨vs, h, r⟩ := h; exact ⟨vs, k _ h (fun _ z => nomatch z), r.mono e⟩
  | dct ds => obtain ⟨vs, h, r⟩ := h; exact ⟨vs, k _ h (fun _ z => nomatch z), r.mono e⟩
  | ins c ds => obtain ⟨dx, vs, h, l, c, r⟩ := h; exact ⟨dx, vs, k _ h (fun _ z => nomatch z), l, c, r.mono e⟩
  | _ => exact h.elim
theorem Has.frz {p : Addr} {d : D} (h : Has K A G H p d) (n : G p = none) : ∃ o, H p = some o ∧ Rep K A (upd G p o) (.ref p) d := by
  have e : ∀ o, L2.Same G (upd G p o) := fun o => SL.Same.new n
  cases d with
  | lst ds => obtain ⟨vs, h, r⟩ := h; exact ⟨_, h, .lst upd_same (r.mono (e _))⟩
  | dic ds => obtain ⟨vs, h, r⟩ := h; exact ⟨_, h, .dic upd_same (r.mono (e _))⟩
  | dct ds => obtain ⟨vs, h, r⟩ := h; exact ⟨_, h, .dct upd_same (r.mono (e _))⟩
  | ins c ds => obtain ⟨dx, vs, h, l, c, r⟩ := h; exact ⟨_, h, .ins upd_same l c (r.mono (e _))⟩
  | _ => exact h.elim
/-! ### slots -/
def SlotOk (K : PySem.W.Frag) (A : CT) (G H : Hp) (ov : Option V) : Slot → Prop
  | .un => True
  | .sh d => ∃ v, ov = some v ∧ Rep K A G v d
  | .ow d => ∃ p, ov = some (.ref p) ∧ G p = none ∧ Has K A G H p d
def Own (σ : L2.St) (ρ : Env) (i : Nat) (p : Addr) : Prop := (∃ d, ρ[i]? = some (.ow d)) ∧ σ[i]? = some (some (.ref p))
def OwnS (σ : L2.St) (ρ : Env) (p : Addr) : Prop := ∃ i, Own σ ρ i p
structure St (K : PySem.W.Frag) (A : CT) (σ : L2.St) (G H : Hp) (ρ : Env) : Prop where
  sub : Sub G H
  len : σ.length = ρ.length
  slot : ∀ i s, ρ[i]? = some s → SlotOk K A G H (σ.getD i none) s
  dist : ∀ i j p, Own σ ρ i p → Own σ ρ j p → i = j
/-- what may have changed -/
structure Ext (O : Addr → Prop) (G H G' H' : Hp) : Prop where
  gs : L2.Same G G'
  fr : ∀ p, G' p ≠ none → G p ≠ none ∨ H p = none ∨ O p
  hs : ∀ p o, H p = some o → ¬ O p → (∀ ps, o ≠ .tbl ps) → H' p = some o
  there : ∀ p, H p ≠ none → H' p ≠ none
theorem Ext.refl (O : Addr → Prop) (G H : Hp) : Ext O G H G H := ⟨fun _ _ h => h, fun _ h => .inl h, fun _ _ h _ _ => h, fun _ h => h⟩
theorem Ext.weak {O O' : Addr → Prop} (e : Ext O G H G' H') (h : ∀ p, O p → O' p) : Ext O' G H G' H' :=
  ⟨e.gs, fun p z => (e.fr p z).imp id fun z => z.imp id (h p), fun p o a n q => e.hs p o a (fun z => n (h p z)) q, e.there⟩
theorem Ext.trans {O O' : Addr → Prop} (a : Ext O G H G1 H1) (b : Ext O' G1 H1 G2 H2) (h : ∀ p, O' p → O p ∨ H p = none) : Ext O G H G2 H2 where
  gs := fun p o z => b.gs p o (a.gs p o z)
  fr := fun p z => by
    rcases b.fr p z with z | z | z
    · exact a.fr p z
    · refine .inr (.inl ?_)
      cases q : H p with
      | none => rfl
      | some o => exact absurd z (a.there p (by rw [q]; exact fun x => nomatch x))
    · exact .inr ((h p z).elim .inr .inl)
  hs := fun p o z n nt => by
    refine b.hs p o (a.hs p o z n nt) (fun q => ?_) nt
    rcases h p q with q | q
    · exact n q
    · rw [z] at q; cases q
  there := fun p z => b.there p (a.there p z)
/-- behind an evaluation -/
structure Nx (K : PySem.W.Frag) (A : CT) (σ : L2.St) (G H : Hp) (ρ : Env) (G' H' : Hp) (ρ' : Env) : Prop where
  ext : Ext (OwnS σ ρ) G H G' H'
  st : St K A σ G' H' ρ'
  own : ∀ i p, Own σ ρ' i p → Own σ ρ i p
section
variable {σ : L2.St} {ρ ρ1 ρ2 ρ' : Env}
theorem Nx.refl (s : St K A σ G H ρ) : Nx K A σ G H ρ G H ρ := ⟨Ext.refl _ _ _, s, fun _ _ h => h⟩
theorem Nx.trans (a : Nx K A σ G H ρ G1 H1 ρ1) (b : Nx K A σ G1 H1 ρ1 G2 H2 ρ2) : Nx K A σ G H ρ G2 H2 ρ2 :=
  ⟨a.ext.trans b.ext fun p ⟨i, z⟩ => .inl ⟨i, a.own i p z⟩, b.st, fun i p z => a.own i p (b.own i p z)⟩
theorem Nx.gs (a : Nx K A σ G H ρ G1 H1 ρ1) : L2.Same G G1 := a.ext.gs
theorem Own.has (s : St K A σ G H ρ) {i : Nat} {p : Addr} (h : Own σ ρ i p) : G p = none ∧ ∃ d, ρ[i]? = some (.ow d) ∧ Has K A G H p d := by
  obtain ⟨⟨d, h1⟩, h2⟩ := h
  obtain ⟨q, e, n, z⟩ := s.slot i _ h1
  rw [List.getD_eq_getElem?_getD, h2] at e
  cases e
  exact ⟨n, d, h1, z⟩
theorem OwnS.there (s : St K A σ G H ρ) {p : Addr} (h : OwnS σ ρ p) : H p ≠ none := by
  obtain ⟨i, h⟩ := h
  obtain ⟨_, d, _, z⟩ := h.has s
  obtain ⟨o, e⟩ := z.ex
  rw [e]; exact fun x => nomatch x
/-- the heap changes but not at our own objects -/
structure Nx0 (G H G' H' : Hp) : Prop where
  ext : Ext (fun _ => False) G H G' H'
  sub : Sub G' H'
theorem Nx0.refl (s : Sub G H) : Nx0 G H G H := ⟨Ext.refl _ _ _, s⟩
theorem Nx0.trans (a : Nx0 G H G1 H1) (b : Nx0 G1 H1 G2 H2) : Nx0 G H G2 H2 := ⟨a.ext.trans b.ext fun _ h => h.elim, b.sub⟩
theorem St.nx0 (s : St K A σ G H ρ) (n : Nx0 G H G' H') : Nx K A σ G H ρ G' H' ρ := by
  refine ⟨n.ext.weak fun _ h => h.elim, ⟨n.sub, s.len, fun i z hz => ?_, s.dist⟩, fun _ _ h => h⟩
  have q := s.slot i z hz
  cases z with
  | un => trivial
  | sh d => obtain ⟨v, e, r⟩ := q; exact ⟨v, e, r.mono n.ext.gs⟩
  | ow d =>
    obtain ⟨p, e, g, h⟩ := q
    refine ⟨p, e, ?_, h.mono n.ext.gs fun o ho nt => n.ext.hs p o ho id nt⟩
    cases q2 : G' p with
    | none => rfl
    | some o =>
      rcases n.ext.fr p (by rw [q2]; exact fun x => nomatch x) with z | z | z
      · exact absurd g z
      · obtain ⟨o, e⟩ := h.ex; rw [z] at e; cases e
      · exact z.elim
/-- the value of a result: new and nobody's, or a value that stays -/
def RepR (K : PySem.W.Frag) (A : CT) (O : Addr → Prop) (H G' H' : Hp) (v : V) (r : Rv) : Prop :=
  if r.2 = true then ∃ p, v = .ref p ∧ G' p = none ∧ Has K A G' H' p r.1 ∧ ¬ O p ∧ H p = none else Rep K A G' v r.1
theorem RepR.of {O : Addr → Prop} {v : V} {d : D} (h : Rep K A G' v d) : RepR K A O H G' H' v (d, false) := h
theorem RepR.new {O : Addr → Prop} {p : Addr} {d : D} (h1 : G' p = none) (h2 : Has K A G' H' p d) (h3 : ¬ O p) (h4 : H p = none) : RepR K A O H G' H' (.ref p) (d, true) := ⟨p, rfl, h1, h2, h3, h4⟩
/-- an own object is given up -/
theorem St.freeze {p : Addr} {d : D} (s : St K A σ G H ρ) (n : G p = none) (h : Has K A G H p d) (no : ¬ OwnS σ ρ p) : ∃ o, H p = some o ∧ St K A σ (upd G p o) H ρ ∧ Rep K A (upd G p o) (.ref p) d ∧ L2.Same G (upd G p o) := by
  obtain ⟨o, ho, r⟩ := h.frz n
  have e : L2.Same G (upd G p o) := SL.Same.new n
  refine ⟨o, ho, ⟨⟨fun q u hq => ?_, s.sub.tb, s.sub.nt_upd h.nt ho, s.sub.bs.trans e⟩, s.len, fun i z hz => ?_, s.dist⟩, r, e⟩
  · by_cases z : q = p
    · subst z; rw [upd_same] at hq; cases hq; exact .inl ho
    · rw [upd_ne z] at hq; exact s.sub q u hq
  · have q := s.slot i z hz
    cases z with
    | un => trivial
    | sh d => obtain ⟨v, e1, r1⟩ := q; exact ⟨v, e1, r1.mono e⟩
    | ow d' =>
      obtain ⟨p', e1, g, h1⟩ := q
      have hne : p' ≠ p := fun z => by
        subst z
        refine no ⟨i, ⟨d', hz⟩, ?_⟩
        rw [List.getD_eq_getElem?_getD] at e1
        cases q : σ[i]? with
        | none => rw [q] at e1; cases e1
        | some x => rw [q] at e1; exact congrArg some e1
      exact ⟨p', e1, by rw [upd_ne hne]; exact g, h1.mono e fun _ z _ => z⟩
theorem Nx.frz {v : V} {r : Rv} (n : Nx K A σ G H ρ G' H' ρ') (h : RepR K A (OwnS σ ρ') H G' H' v r) : ∃ G2, Nx K A σ G H ρ G2 H' ρ' ∧ Rep K A G2 v r.1 ∧ L2.Same G' G2 := by
  unfold RepR at h
  split at h
  · obtain ⟨p, rfl, h1, h2, h3, h4⟩ := h
    obtain ⟨o, ho, s, rr, e⟩ := n.st.freeze h1 h2 h3
    refine ⟨_, ⟨⟨n.ext.gs.trans e, fun q hq => ?_, n.ext.hs, n.ext.there⟩, s, n.own⟩, rr, e⟩
    by_cases z : q = p
    · subst z; exact .inr (.inl h4)
    · rw [upd_ne z] at hq; exact n.ext.fr q hq
  · exact ⟨G', n, h, fun _ _ z => z⟩
end
/-! ### readings of mirrors -/
section
variable (K : PySem.W.Frag) (A : CT)
def liftE (m : Ev) : TE := fun σ H Q => ∃ G ρ r ρ', St K A σ G H ρ ∧ m ρ = .ok (r, ρ') ∧ ∀ v G' H', Nx K A σ G H ρ G' H' ρ' → RepR K A (OwnS σ ρ') H G' H' v r → Q v H'
def liftT (m : Ev) : TT := fun σ H Q => ∃ G ρ b ρ', St K A σ G H ρ ∧ val m ρ = .ok (.bl b, ρ') ∧ ∀ G' H', Nx K A σ G H ρ G' H' ρ' → Q b H'
def liftA (ms : List Ev) : TA := fun σ H Q => ∃ G ρ ds ρ', St K A σ G H ρ ∧ evs ms ρ = .ok (ds, ρ') ∧ ∀ vs G' H', Nx K A σ G H ρ G' H' ρ' → Reps K A G' vs ds → Q vs H'
end
variable {Q : VK}
theorem use_val {σ : L2.St} {ρ ρ' : Env} {m : Ev} {d : D} (s : St K A σ G H ρ) (e : val m ρ = .ok (d, ρ')) (k : ∀ v G' H', Nx K A σ G H ρ G' H' ρ' → Rep K A G' v d → Q v H') : liftE K A m σ H Q := by
  obtain ⟨⟨r, ρ1⟩, e1, e2⟩ := bind_ok e
  cases e2
  refine ⟨G, ρ, r, _, s, e1, fun v G' H' n h => ?_⟩
  obtain ⟨G2, n2, h2, _⟩ := n.frz h
  exact k v G2 H' n2 h2
abbrev PD (A : CT) (X : Cx) (e : Expr) (m : Ev) : Prop := PE X e (liftE X.K A m)
abbrev PDT (A : CT) (X : Cx) (e : Expr) (m : Ev) : Prop := PT X e (liftT X.K A m)
abbrev PDA (A : CT) (X : Cx) (es : List Expr) (ms : List Ev) : Prop := PA X es (liftA X.K A ms)
theorem PE.imp {X : Cx} {e : Expr} {t t' : TE} (h : PE X e t) (k : ∀ σ H Q, t' σ H Q → t σ H Q) : PE X e t' := ⟨fun pins s σ H Q I q => h.run pins s σ H Q I (k σ H Q q)⟩
theorem PT.imp {X : Cx} {e : Expr} {t t' : TT} (h : PT X e t) (k : ∀ σ H Q, t' σ H Q → t σ H Q) : PT X e t' := ⟨fun pins s σ H Q I q => h.run pins s σ H Q I (k σ H Q q)⟩
theorem PA.imp {X : Cx} {e : List Expr} {t t' : TA} (h : PA X e t) (k : ∀ σ H Q, t' σ H Q → t σ H Q) : PA X e t' := ⟨fun pos pins s σ H Q I q => h.run pos pins s σ H Q I (k σ H Q q)⟩
theorem PS.imp {X : Cx} {e : Stmt} {t t' : TS} (h : PS X e t) (k : ∀ D σ H, t' D σ H → t D σ H) : PS X e t' := ⟨fun pins s σ H D I q => h.run pins s σ H D I (k D σ H q)⟩
theorem PSs.imp {X : Cx} {e : List Stmt} {t t' : TS} (h : PSs X e t) (k : ∀ D σ H, t' D σ H → t D σ H) : PSs X e t' := ⟨fun pins s σ H D I q => h.run pins s σ H D I (k D σ H q)⟩
/-- operations on values -/
def RepN (K : PySem.W.Frag) (A : CT) (H G' H' : Hp) (v : V) (r : Rv) : Prop := RepR K A (fun _ => False) H G' H' v r
theorem RepN.r {σ : L2.St} {ρ : Env} {v : V} {r : Rv} (h : RepN K A H G' H' v r) (s : St K A σ G H ρ) : RepR K A (OwnS σ ρ) H G' H' v r := by
  unfold RepN RepR at *
  split at h
  · rename_i q
    obtain ⟨p, e, h1, h2, _, h4⟩ := h
    rw [if_pos q]
    exact ⟨p, e, h1, h2, fun z => OwnS.there s z h4, h4⟩
  · rename_i q
    rw [if_neg q]; exact h
end DY

set_option Elab.async false
set_option linter.all false
set_option maxRecDepth 100000
set_option maxHeartbeats 4000000
/-! ### rules for expressions -/
namespace DY
open PySem L2 PySem.Spec PyProof.Rows
variable [Tb]
variable {K : PySem.W.Frag} {A : CT} {G G' G1 G2 H H' H1 H2 : Hp} {σ : L2.St} {ρ ρ1 ρ2 ρ' : Env} {Q : VK}
theorem getD_some {i : Nat} {v : V} (h : σ.getD i none = some v) : σ[i]? = some (some v) := by
  rw [List.getD_eq_getElem?_getD] at h
  cases q : σ[i]? with
  | none => rw [q] at h; cases h
  | some x => rw [q] at h; exact congrArg some h
theorem getD_of {i : Nat} {v : Option V} (h : σ[i]? = some v) : σ.getD i none = v := by rw [List.getD_eq_getElem?_getD, h]; rfl
theorem own_set {i j : Nat} {p : Addr} {s : Slot} (ns : ∀ d, s ≠ .ow d) (h : Own σ (ρ.set i s) j p) : Own σ ρ j p ∧ j ≠ i := by
  obtain ⟨⟨d, h1⟩, h2⟩ := h
  by_cases e : i = j
  · subst e
    rw [List.getElem?_set_self'] at h1
    cases q : ρ[i]? with
    | none => rw [q] at h1; cases h1
    | some x => rw [q] at h1; exact absurd (Option.some.inj h1) (ns d)
  · rw [List.getElem?_set_ne e] at h1
    exact ⟨⟨⟨d, h1⟩, h2⟩, fun z => e z.symm⟩
/-- slot i gets something that is no own object -/
theorem St.put {i : Nat} {s : Slot} (h : St K A σ G H ρ) (ns : ∀ d, s ≠ .ow d) (k : SlotOk K A G H (σ.getD i none) s) : St K A σ G H (ρ.set i s) := by
  refine ⟨h.sub, by rw [List.length_set]; exact h.len, fun j z hz => ?_, fun a b p ha hb => h.dist a b p (own_set ns ha).1 (own_set ns hb).1⟩
  by_cases e : i = j
  · subst e
    rw [List.getElem?_set_self'] at hz
    cases q : ρ[i]? with
    | none => rw [q] at hz; cases hz
    | some x => rw [q] at hz; cases (Option.some.inj hz); exact k
  · rw [List.getElem?_set_ne e] at hz
    exact h.slot j z hz
theorem St.give {i : Nat} {d : D} (s : St K A σ G H ρ) (e : ρ[i]? = some (.ow d)) : ∃ p G2, σ[i]? = some (some (.ref p)) ∧ Nx K A σ G H ρ G2 H (ρ.set i (.sh d)) ∧ Rep K A G2 (.ref p) d := by
  obtain ⟨p, e1, n, h⟩ := s.slot i _ e
  have e2 := getD_some e1
  have s1 : St K A σ G H (ρ.set i .un) := s.put (fun _ z => nomatch z) trivial
  have no : ¬ OwnS σ (ρ.set i .un) p := fun ⟨j, z⟩ => by
    have := own_set (s := .un) (fun _ z => nomatch z) z
    exact this.2 (s.dist j i p this.1 ⟨⟨d, e⟩, e2⟩)
  obtain ⟨o, ho, s2, r, g⟩ := s1.freeze n h no
  have s3 := s2.put (i := i) (s := .sh d) (fun _ z => nomatch z) ⟨.ref p, e1, r⟩
  rw [List.set_set] at s3
  refine ⟨p, _, e2, ⟨⟨g, fun q hq => ?_, fun _ _ z _ _ => z, fun _ z => z⟩, s3, fun j q z => (own_set (s := .sh d) (fun _ z => nomatch z) z).1⟩, r⟩
  by_cases z : q = p
  · subst z; exact .inr (.inr ⟨i, ⟨d, e⟩, e2⟩)
  · rw [upd_ne z] at hq; exact .inl hq
section
variable {X : Cx}
theorem pd_var {i : Nat} {x : Str} {pos : Pos} (h : PE X (.Name x pos) (tVar i)) : PD A X (.Name x pos) (eVar i) := PE.imp h fun σ H Q q => by
  obtain ⟨G, ρ, r, ρ', s, e, k⟩ := q
  unfold eVar at e
  split at e
  · rename_i d hd
    cases e
    obtain ⟨v, e1, rv⟩ := s.slot i _ hd
    exact ⟨v, getD_some e1, k v G H (Nx.refl s) (RepR.of rv)⟩
  · rename_i d hd
    cases e
    obtain ⟨p, G2, e1, n, rv⟩ := s.give hd
    exact ⟨.ref p, e1, k _ G2 H n (RepR.of rv)⟩
  · cases e
theorem pd_c {e : Expr} {v : V} {d : D} (h : PE X e (tC v)) (r : ∀ G, Rep X.K A G v d) : PD A X e (eC d) := PE.imp h fun σ H Q q => by
  obtain ⟨G, ρ, r', ρ', s, e, k⟩ := q
  cases e
  exact k v G H (Nx.refl s) (RepR.of (r G))
theorem pd_int {i : Int} {j pos} : PD A X (.Constant (.int i) j pos) (eC (.int i)) := pd_c pe_int fun _ => .int i
theorem pd_bl {i : Bool} {j pos} : PD A X (.Constant (.bool i) j pos) (eC (.bl i)) := pd_c pe_bl fun _ => .bl i
theorem pd_non {j pos} : PD A X (.Constant .none j pos) (eC .non) := pd_c pe_non fun _ => .non
theorem rep_str {G : Hp} {x : Str} {l : List Nat} (h : x.cps.toList = l) : Rep K A G (.str x) (.str l) := by
  subst h
  have := Rep.str (K := K) (A := A) (G := G) x.cps.toList
  rw [S_cps] at this
  exact this
theorem pd_str {x : Str} {l : List Nat} {j pos} (h : x.cps.toList = l) : PD A X (.Constant (.str x) j pos) (eC (.str l)) := pd_c pe_str fun _ => rep_str h
/-! operations -/
variable (K A) in
def rD (f : D → D → R Rv) : R2 := fun x y H Q => ∃ G d1 d2 r, Sub G H ∧ Rep K A G x d1 ∧ Rep K A G y d2 ∧ f d1 d2 = .ok r ∧ ∀ v G' H', Nx0 G H G' H' → RepN K A H G' H' v r → Q v H'
variable (K A) in
def rDu (f : D → R Rv) : V → Hp → VK → Prop := fun x H Q => ∃ G d r, Sub G H ∧ Rep K A G x d ∧ f d = .ok r ∧ ∀ v G' H', Nx0 G H G' H' → RepN K A H G' H' v r → Q v H'
variable (K A) in
def rDn (f : List D → R Rv) : List V → Hp → VK → Prop := fun xs H Q => ∃ G ds r, Sub G H ∧ Reps K A G xs ds ∧ f ds = .ok r ∧ ∀ v G' H', Nx0 G H G' H' → RepN K A H G' H' v r → Q v H'
/-- where nothing new comes -/
theorem same_end {G H : Hp} {v : V} {d : D} (s : Sub G H) (r : Rep K A G v d) {Q : VK} (k : ∀ v G' H', Nx0 G H G' H' → RepN K A H G' H' v (d, false) → Q v H') : Q v H := k v G H (Nx0.refl s) (RepR.of r)
/-- from the state behind the arguments to the end -/
theorem end_of {G0 H0 : Hp} {ρ0 : Env} {r : Rv} (n : Nx K A σ G0 H0 ρ0 G H ρ) (k : ∀ v G' H', Nx K A σ G0 H0 ρ0 G' H' ρ → RepR K A (OwnS σ ρ) H0 G' H' v r → Q v H') : ∀ v G' H', Nx0 G H G' H' → RepN K A H G' H' v r → Q v H' := fun v G' H' n0 h => by
  have n1 := n.st.nx0 n0
  refine k v G' H' (n.trans n1) ?_
  have h' := h.r n.st
  unfold RepR at *
  split at h'
  · rename_i q
    rw [if_pos q]
    obtain ⟨p, e, h1, h2, h3, h4⟩ := h'
    refine ⟨p, e, h1, h2, h3, ?_⟩
    cases z : H0 p with
    | none => rfl
    | some o => exact absurd h4 (n.ext.there p (by rw [z]; exact fun x => nomatch x))
  · rename_i q
    rw [if_neg q]; exact h'
theorem bin_use {f : D → D → R Rv} {ma mb : Ev} (h : liftE K A (eBin f ma mb) σ H Q) : liftE K A ma σ H fun x H1 => liftE K A mb σ H1 fun y H2 => rD K A f x y H2 Q := by
  obtain ⟨G, ρ, r, ρ', s, e, k⟩ := h
  obtain ⟨⟨d1, ρ1⟩, e1, e⟩ := bind_ok e
  obtain ⟨⟨d2, ρ2⟩, e2, e⟩ := bind_ok e
  obtain ⟨r', e3, e⟩ := bind_ok e
  cases e
  refine use_val s e1 fun x G1 H1 n1 r1 => use_val n1.st e2 fun y G2 H2 n2 r2 => ⟨G2, d1, d2, r, n2.st.sub, r1.mono n2.gs, r2, e3, end_of (n1.trans n2) k⟩
theorem un_use {f : D → R Rv} {ma : Ev} (h : liftE K A (eUn f ma) σ H Q) : liftE K A ma σ H fun x H1 => rDu K A f x H1 Q := by
  obtain ⟨G, ρ, r, ρ', s, e, k⟩ := h
  obtain ⟨⟨d1, ρ1⟩, e1, e⟩ := bind_ok e
  obtain ⟨r', e3, e⟩ := bind_ok e
  cases e
  exact use_val s e1 fun x G1 H1 n1 r1 => ⟨G1, d1, r, n1.st.sub, r1, e3, end_of n1 k⟩
theorem n_use {f : List D → R Rv} {ms : List Ev} (h : liftE K A (eN f ms) σ H Q) : liftA K A ms σ H fun xs H1 => rDn K A f xs H1 Q := by
  obtain ⟨G, ρ, r, ρ', s, e, k⟩ := h
  obtain ⟨⟨ds, ρ1⟩, e1, e⟩ := bind_ok e
  obtain ⟨r', e3, e⟩ := bind_ok e
  cases e
  exact ⟨G, ρ, ds, _, s, e1, fun vs G1 H1 n1 r1 => ⟨G1, ds, r, n1.st.sub, r1, e3, end_of n1 k⟩⟩
variable {a b c : Expr} {ma mb mc : Ev} {pos : Pos}
theorem pd_bin {op : Operator} {f : D → D → R Rv} (hf : OpR X (binaryOp op) (rD X.K A f)) (ha : PD A X a ma) (hb : PD A X b mb) : PD A X (.BinOp a op b pos) (eBin f ma mb) := PE.imp (pe_op hf ha hb) fun _ _ _ => bin_use
theorem pd_un {op : UnaryOp} {f : D → R Rv} (hf : UnR X (unaryOp op) (rDu X.K A f)) (ha : PD A X a ma) : PD A X (.UnaryOp op a pos) (eUn f ma) := PE.imp (pe_un hf ha) fun _ _ _ => un_use
theorem pd_cmp {op : CmpOp} {f : D → D → R Rv} (hf : OpR X (compareOp op) (rD X.K A f)) (ha : PD A X a ma) (hb : PD A X b mb) (hm : behindInMarks op b = false) : PD A X (.Compare a [op] [b] pos) (eBin f ma mb) := PE.imp (pe_cmpR hf ha hb hm) fun _ _ _ => bin_use
theorem pd_ix {f : D → D → R Rv} (hf : IxR X (rD X.K A f)) (ha : PD A X a ma) (hb : PD A X b mb) (hs : PlainIx b) : PD A X (.Subscript a b pos) (eBin f ma mb) := PE.imp (pe_ix hf ha hb hs) fun _ _ _ => bin_use
/-- a test from a value -/
theorem test_use {m : Ev} {Q : Bool → Hp → Prop} (h : liftT K A m σ H Q) : liftE K A m σ H fun x H' => ∃ k, x = .bl k ∧ Q k H' := by
  obtain ⟨G, ρ, b, ρ', s, e, k⟩ := h
  refine use_val s e fun v G1 H1 n r => ?_
  cases r
  exact ⟨b, rfl, k G1 H1 n⟩
theorem pdt_cmp {op : CmpOp} {f : D → D → R Rv} (hf : OpR X (compareOp op) (rD X.K A f)) (ha : PD A X a ma) (hb : PD A X b mb) (hm : behindInMarks op b = false) : PDT A X (.Compare a [op] [b] pos) (eBin f ma mb) :=
  PT.imp (pt_cmpR hf ha hb hm) fun _ _ _ h => bin_use (test_use h)
theorem pdt_val (h : PD A X a ma) (he : ∀ whole, isTrue a X.env whole = (do let v ← whole; standAt a.pos; holding [v] (truthy v)) := by intro _; rfl) : PDT A X a ma := PT.imp (pt_val h he) fun _ _ _ h => test_use h
theorem isB_ok {x : D} {c : Bool} (h : isB x = .ok c) : x = .bl c := by
  cases x <;> first | cases h; rfl | cases h
theorem if_use {t : Ev} (h : liftE K A (eIf t ma mb) σ H Q) : liftT K A t σ H fun c H1 => if c = true then liftE K A ma σ H1 Q else liftE K A mb σ H1 Q := by
  obtain ⟨G, ρ, r, ρ', s, e, k⟩ := h
  obtain ⟨⟨x, ρ1⟩, e1, e⟩ := bind_ok e
  obtain ⟨c, e2, e⟩ := bind_ok e
  cases isB_ok e2
  refine ⟨G, ρ, c, ρ1, s, e1, fun G1 H1 n => ?_⟩
  have fin : ∀ {m : Ev}, m ρ1 = .ok (r, ρ') → liftE K A m σ H1 Q := fun {m} e => ⟨G1, ρ1, r, ρ', n.st, e, fun v G2 H2 n2 h => by
    refine k v G2 H2 (n.trans n2) ?_
    unfold RepR at *
    split at h
    · rename_i q
      rw [if_pos q]
      obtain ⟨p, e, h1, h2, h3, h4⟩ := h
      refine ⟨p, e, h1, h2, h3, ?_⟩
      cases z : H p with
      | none => rfl
      | some o => exact absurd h4 (n.ext.there p (by rw [z]; exact fun x => nomatch x))
    · rename_i q
      rw [if_neg q]; exact h⟩
  cases c with
  | true => exact iteT (fin e)
  | false => exact iteF (fin e)
theorem pd_if (hc : PDT A X c mc) (ha : PD A X a ma) (hb : PD A X b mb) : PD A X (.IfExp c a b pos) (eIf mc ma mb) := PE.imp (pe_ifExp hc ha hb) fun _ _ _ => if_use
/-- a result of a later part is one of the whole -/
theorem later {r : Rv} {v : V} (n : Nx K A σ G H ρ G1 H1 ρ1) (h : RepR K A (OwnS σ ρ') H1 G' H' v r) : RepR K A (OwnS σ ρ') H G' H' v r := by
  unfold RepR at *
  split at h
  · rename_i q
    rw [if_pos q]
    obtain ⟨p, e, h1, h2, h3, h4⟩ := h
    refine ⟨p, e, h1, h2, h3, ?_⟩
    cases z : H p with
    | none => rfl
    | some o => exact absurd h4 (n.ext.there p (by rw [z]; exact fun x => nomatch x))
  · rename_i q
    rw [if_neg q]; exact h
theorem and_use (h : liftE K A (eAnd ma mb) σ H Q) : liftE K A ma σ H fun x H1 => ∃ c, x = .bl c ∧ if c = true then liftE K A mb σ H1 Q else Q (.bl false) H1 := by
  obtain ⟨G, ρ, r, ρ', s, e, k⟩ := h
  obtain ⟨⟨x, ρ1⟩, e1, e⟩ := bind_ok e
  obtain ⟨c, e2, e⟩ := bind_ok e
  cases isB_ok e2
  refine use_val s e1 fun v G1 H1 n rv => ?_
  cases rv
  refine ⟨c, rfl, ?_⟩
  cases c with
  | true => exact iteT ⟨G1, ρ1, r, ρ', n.st, e, fun v G2 H2 n2 h => k v G2 H2 (n.trans n2) (later n h)⟩
  | false => cases e; exact iteF (k _ G1 H1 n (RepR.of (.bl false)))
theorem or_use (h : liftE K A (eOr ma mb) σ H Q) : liftE K A ma σ H fun x H1 => ∃ c, x = .bl c ∧ if c = true then Q (.bl true) H1 else liftE K A mb σ H1 Q := by
  obtain ⟨G, ρ, r, ρ', s, e, k⟩ := h
  obtain ⟨⟨x, ρ1⟩, e1, e⟩ := bind_ok e
  obtain ⟨c, e2, e⟩ := bind_ok e
  cases isB_ok e2
  refine use_val s e1 fun v G1 H1 n rv => ?_
  cases rv
  refine ⟨c, rfl, ?_⟩
  cases c with
  | true => cases e; exact iteT (k _ G1 H1 n (RepR.of (.bl true)))
  | false => exact iteF ⟨G1, ρ1, r, ρ', n.st, e, fun v G2 H2 n2 h => k v G2 H2 (n.trans n2) (later n h)⟩
theorem not_use (h : liftE K A (eNot ma) σ H Q) : liftE K A ma σ H fun x H1 => ∃ c, x = .bl c ∧ Q (.bl (!c)) H1 := by
  obtain ⟨G, ρ, r, ρ', s, e, k⟩ := h
  obtain ⟨⟨x, ρ1⟩, e1, e⟩ := bind_ok e
  obtain ⟨c, e2, e⟩ := bind_ok e
  cases isB_ok e2
  cases e
  refine use_val s e1 fun v G1 H1 n rv => ?_
  cases rv
  exact ⟨c, rfl, k _ G1 H1 n (RepR.of (.bl (!c)))⟩
variable {rest : List Expr}
theorem pd_and (ha : PD A X a ma) (hb : PD A X (.BoolOp .And (b :: rest) pos) mb) : PD A X (.BoolOp .And (a :: b :: rest) pos) (eAnd ma mb) := PE.imp (pe_and ha hb) fun _ _ _ => and_use
theorem pd_or (ha : PD A X a ma) (hb : PD A X (.BoolOp .Or (b :: rest) pos) mb) : PD A X (.BoolOp .Or (a :: b :: rest) pos) (eOr ma mb) := PE.imp (pe_or ha hb) fun _ _ _ => or_use
theorem pd_one {op} (h : PD A X a ma) : PD A X (.BoolOp op [a] pos) ma := pe_one h
theorem pd_not (ha : PD A X a ma) : PD A X (.UnaryOp .Not a pos) (eNot ma) := PE.imp (pe_not ha) fun _ _ _ => not_use
/-! tests of and, or, not -/
theorem val_ok {m : Ev} {d : D} (e : val m ρ = .ok (d, ρ')) : ∃ f, m ρ = .ok ((d, f), ρ') := by
  obtain ⟨⟨r, ρ1⟩, e1, e2⟩ := bind_ok e
  cases e2
  exact ⟨r.2, e1⟩
theorem val_of {m : Ev} {r : Rv} (e : m ρ = .ok (r, ρ')) : val m ρ = .ok (r.1, ρ') := by unfold val; rw [e]; rfl
theorem tand_use {Q : Bool → Hp → Prop} (h : liftT K A (eAnd ma mb) σ H Q) : liftT K A ma σ H fun c H1 => if c = true then liftT K A mb σ H1 Q else Q false H1 := by
  obtain ⟨G, ρ, b, ρ', s, e, k⟩ := h
  obtain ⟨f, e⟩ := val_ok e
  obtain ⟨⟨x, ρ1⟩, e1, e⟩ := bind_ok e
  obtain ⟨c, e2, e⟩ := bind_ok e
  cases isB_ok e2
  refine ⟨G, ρ, c, ρ1, s, e1, fun G1 H1 n => ?_⟩
  cases c with
  | true => exact iteT ⟨G1, ρ1, b, ρ', n.st, val_of e, fun G2 H2 n2 => k G2 H2 (n.trans n2)⟩
  | false => cases e; exact iteF (k G1 H1 n)
theorem tor_use {Q : Bool → Hp → Prop} (h : liftT K A (eOr ma mb) σ H Q) : liftT K A ma σ H fun c H1 => if c = true then Q true H1 else liftT K A mb σ H1 Q := by
  obtain ⟨G, ρ, b, ρ', s, e, k⟩ := h
  obtain ⟨f, e⟩ := val_ok e
  obtain ⟨⟨x, ρ1⟩, e1, e⟩ := bind_ok e
  obtain ⟨c, e2, e⟩ := bind_ok e
  cases isB_ok e2
  refine ⟨G, ρ, c, ρ1, s, e1, fun G1 H1 n => ?_⟩
  cases c with
  | true => cases e; exact iteT (k G1 H1 n)
  | false => exact iteF ⟨G1, ρ1, b, ρ', n.st, val_of e, fun G2 H2 n2 => k G2 H2 (n.trans n2)⟩
theorem tnot_use {Q : Bool → Hp → Prop} (h : liftT K A (eNot ma) σ H Q) : liftT K A ma σ H fun c H1 => Q (!c) H1 := by
  obtain ⟨G, ρ, b, ρ', s, e, k⟩ := h
  obtain ⟨f, e⟩ := val_ok e
  obtain ⟨⟨x, ρ1⟩, e1, e⟩ := bind_ok e
  obtain ⟨c, e2, e⟩ := bind_ok e
  cases isB_ok e2
  cases e
  exact ⟨G, ρ, c, _, s, e1, fun G1 H1 n => k G1 H1 n⟩
theorem PW.imp {X : Cx} {e : Expr} {t t' : TT} (h : PW X e t) (k : ∀ σ H Q, t' σ H Q → t σ H Q) : PW X e t' := ⟨fun wh pins s σ H Q I q => h.run wh pins s σ H Q I (k σ H Q q)⟩
abbrev PDW (A : CT) (X : Cx) (e : Expr) (m : Ev) : Prop := PW X e (liftT X.K A m)
theorem pdw_and1 (ha : PDT A X a ma) : PDW A X (.BoolOp .And [a] pos) ma := pw_and1 ha
theorem pdw_or1 (ha : PDT A X a ma) : PDW A X (.BoolOp .Or [a] pos) ma := pw_or1 ha
theorem pdw_and (ha : PDT A X a ma) (hb : PDW A X (.BoolOp .And (b :: rest) pos) mb) : PDW A X (.BoolOp .And (a :: b :: rest) pos) (eAnd ma mb) := PW.imp (pw_and ha hb) fun _ _ _ => tand_use
theorem pdw_or (ha : PDT A X a ma) (hb : PDW A X (.BoolOp .Or (b :: rest) pos) mb) : PDW A X (.BoolOp .Or (a :: b :: rest) pos) (eOr ma mb) := PW.imp (pw_or ha hb) fun _ _ _ => tor_use
theorem pdt_w (h : PDW A X a ma) : PDT A X a ma := h.pt
theorem pdt_not (ha : PDT A X a ma) : PDT A X (.UnaryOp .Not a pos) (eNot ma) := PT.imp (pt_not ha) fun _ _ _ => tnot_use
/-! a chain -/
theorem chain_use {f g : D → D → R Rv} (h : liftE K A (eChain f g ma mb mc) σ H Q) (hf : ∀ x y r, f x y = .ok r → r.2 = false) : liftE K A ma σ H fun x H1 => liftE K A mb σ H1 fun y H2 => rD K A f x y H2 fun z H3 => ∃ k, z = .bl k ∧ (if k = true then liftE K A mc σ H3 fun w' H4 => rD K A g y w' H4 Q else Q (.bl false) H3) := by
  obtain ⟨G, ρ, r, ρ', s, e, k⟩ := h
  obtain ⟨⟨d1, ρ1⟩, e1, e⟩ := bind_ok e
  obtain ⟨⟨d2, ρ2⟩, e2, e⟩ := bind_ok e
  obtain ⟨⟨d3, f3⟩, e3, e⟩ := bind_ok e
  obtain ⟨c, e4, e⟩ := bind_ok e
  obtain rfl := isB_ok e4
  obtain rfl : f3 = false := hf _ _ _ e3
  refine use_val s e1 fun x G1 H1 n1 r1 => use_val n1.st e2 fun y G2 H2 n2 r2 => ⟨G2, d1, d2, _, n2.st.sub, r1.mono n2.gs, r2, e3, fun v G3 H3 n3 hv => ?_⟩
  have n3' := n2.st.nx0 n3
  cases (show Rep K A G3 v (.bl c) from hv)
  refine ⟨c, rfl, ?_⟩
  cases c with
  | true =>
    refine iteT ?_
    replace e : (val mc ρ2 >>= fun x => g d2 x.1 >>= fun r => pure (r, x.2)) = R.ok (r, ρ') := e
    obtain ⟨⟨d4, ρ4⟩, e5, e⟩ := bind_ok e
    obtain ⟨r', e6, e⟩ := bind_ok e
    cases e
    exact use_val n3'.st e5 fun w G4 H4 n4 r4 => ⟨G4, d2, d4, r, n4.st.sub, (r2.mono n3'.gs).mono n4.gs, r4, e6, end_of (((n1.trans n2).trans n3').trans n4) k⟩
  | false => cases e; exact iteF (k _ G3 H3 ((n1.trans n2).trans n3') (RepR.of (.bl false)))
theorem pd_chain {op op' : CmpOp} {f g : D → D → R Rv} (hf : OpR X (compareOp op) (rD X.K A f)) (hg : OpR X (compareOp op') (rD X.K A g)) (ha : PD A X a ma) (hb : PD A X b mb) (hc : PD A X c mc) (nf : ∀ x y r, f x y = .ok r → r.2 = false)
    (hm : lastMarks [op, op'] [b, c] = false := by with_unfolding_all rfl) : PD A X (.Compare a [op, op'] [b, c] pos) (eChain f g ma mb mc) := PE.imp (pe_chain hf hg ha hb hc hm) fun _ _ _ h => chain_use h nf
theorem pdt_chain {op op' : CmpOp} {f g : D → D → R Rv} (hf : OpR X (compareOp op) (rD X.K A f)) (hg : OpR X (compareOp op') (rD X.K A g)) (ha : PD A X a ma) (hb : PD A X b mb) (hc : PD A X c mc) (nf : ∀ x y r, f x y = .ok r → r.2 = false)
    (hm : lastMarks [op, op'] [b, c] = false := by with_unfolding_all rfl) : PDT A X (.Compare a [op, op'] [b, c] pos) (eChain f g ma mb mc) := PT.imp (pt_chain hf hg ha hb hc hm) fun _ _ _ h => chain_use (test_use h) nf
/-! arguments -/
theorem pda_nil : PDA A X [] [] := PA.imp pa_nil fun σ H Q h => by
  obtain ⟨G, ρ, ds, ρ', s, e, k⟩ := h
  cases e
  exact k [] G H (Nx.refl s) .nil
theorem cons_use {m : Ev} {ms : List Ev} {Q : List V → Hp → Prop} (h : liftA K A (m :: ms) σ H Q) : tCons (liftE K A m) (liftA K A ms) σ H Q := by
  obtain ⟨G, ρ, ds, ρ', s, e, k⟩ := h
  obtain ⟨⟨d, ρ1⟩, e1, e⟩ := bind_ok e
  obtain ⟨⟨ds', ρ2⟩, e2, e⟩ := bind_ok e
  cases e
  exact use_val s e1 fun v G1 H1 n r => ⟨G1, ρ1, ds', _, n.st, e2, fun vs G2 H2 n2 rs => k _ G2 H2 (n.trans n2) (.cons (r.mono n2.gs) rs)⟩
theorem pda_cons {es : List Expr} {ms : List Ev} (ha : PD A X a ma) (hr : PDA A X es ms) (hs : starEach (a :: es) X.env = (false, eval a X.env) :: starEach es X.env := by rfl) : PDA A X (a :: es) (ma :: ms) := PA.imp (pa_cons ha hr hs) fun _ _ _ => cons_use
/-! displays -/
def mkTup (ds : List D) : R Rv := if ds.length ≤ 1000 then .ok (.tup ds, false) else .no
def mkKey (ds : List D) : R Rv := if ds.length ≤ 1000 then .ok (.kt ds, false) else .no
def mkLst (ds : List D) : R Rv := if ds.length ≤ 1000 then .ok (.lst ds, true) else .no
theorem upd_nx0 {p : Addr} {o : HO} (s : Sub G H) (n : H p = none) : Nx0 G H G (upd H p o) ∧ G p = none := by
  have gn : G p = none := by
    cases q : G p with
    | none => rfl
    | some u => obtain ⟨x, e⟩ := s.ex q; rw [n] at e; cases e
  refine ⟨⟨⟨fun _ _ h => h, fun _ h => .inl h, fun q u h _ _ => by rw [upd_ne (ne_of_none h n)]; exact h, fun q h => ?_⟩, ⟨fun q u h => ?_, nT.new n s.tb, s.nt, s.bs⟩⟩, gn⟩
  · by_cases z : q = p
    · subst z; rw [upd_same]; exact fun x => nomatch x
    · rw [upd_ne z]; exact h
  · have : q ≠ p := fun z => by subst z; rw [gn] at h; cases h
    rw [upd_ne this]
    exact s q u h
theorem nx0_new {p : Addr} {o : HO} (s : Sub G H) (n : H p = none) (t : nT o := by trivial) : Nx0 G H (upd G p o) (upd H p o) := by
  obtain ⟨x, gn⟩ := upd_nx0 (o := o) s n
  refine ⟨⟨SL.Same.new gn, fun q hq => ?_, x.ext.hs, x.ext.there⟩, ⟨fun q u h => ?_, x.sub.tb, x.sub.nt_new t, x.sub.bs.trans (SL.Same.new gn)⟩⟩
  · by_cases z : q = p
    · subst z; exact .inr (.inl n)
    · rw [upd_ne z] at hq; exact .inl hq
  · by_cases z : q = p
    · subst z; rw [upd_same] at h; cases h; exact .inl upd_same
    · rw [upd_ne z] at h; exact x.sub q u h
/-- a new tuple; one that is to be a key -/
theorem new_tup {p : Addr} {o : Obj} {vs : List V} {ds : List D} (s : Sub G H) (n : H p = none) (ho : o.dict = none) (r : Reps K A G vs ds) : Nx0 G H (upd G p (.frz o (.tup vs))) (upd H p (.frz o (.tup vs))) ∧ Rep K A (upd G p (.frz o (.tup vs))) (.ref p) (.tup ds) :=
  ⟨nx0_new s n, .tup ho upd_same (r.mono (SL.Same.new (upd_nx0 (o := .tup vs) s n).2))⟩
theorem new_key {p : Addr} {vs : List V} {ds : List D} (s : Sub G H) (n : H p = none) (r : Reps K A G vs ds) : Nx0 G H (upd G p (.tup vs)) (upd H p (.tup vs)) ∧ Rep K A (upd G p (.tup vs)) (.ref p) (.kt ds) :=
  ⟨nx0_new s n, .kt upd_same (r.mono (SL.Same.new (upd_nx0 (o := .tup vs) s n).2))⟩
theorem new_lst {p : Addr} {vs : List V} {ds : List D} (s : Sub G H) (n : H p = none) (r : Reps K A G vs ds) : Nx0 G H G (upd H p (.lst vs)) ∧ RepN K A H G (upd H p (.lst vs)) (.ref p) (.lst ds, true) :=
  ⟨(upd_nx0 s n).1, RepR.new (upd_nx0 (o := .lst vs) s n).2 ⟨vs, upd_same, r⟩ id n⟩
theorem tup_r {vs : List V} (h : rDn K A mkTup vs H Q) : vs.length ≤ sizeLine ∧ ∀ p o, o.dict = none → H p = none → Q (.ref p) (upd H p (.frz o (.tup vs))) := by
  obtain ⟨G, ds, r, s, rs, e, k⟩ := h
  unfold mkTup at e
  split at e
  · cases e
    rename_i q
    refine ⟨SL.szL (by rw [rs.len]; exact q), fun p o ho n => ?_⟩
    obtain ⟨n0, rr⟩ := new_tup (K := K) (A := A) s n ho rs
    exact k _ _ _ n0 (RepR.of rr)
  · cases e
theorem key_r {vs : List V} (h : rDn K A mkKey vs H Q) : vs.length ≤ sizeLine ∧ ∀ p, H p = none → Q (.ref p) (upd H p (.tup vs)) := by
  obtain ⟨G, ds, r, s, rs, e, k⟩ := h
  unfold mkKey at e
  split at e
  · cases e
    rename_i q
    refine ⟨SL.szL (by rw [rs.len]; exact q), fun p n => ?_⟩
    obtain ⟨n0, rr⟩ := new_key (K := K) (A := A) s n rs
    exact k _ _ _ n0 (RepR.of rr)
  · cases e
def tTupF (t : TA) : TE := fun σ H Q => t σ H fun xs H1 => xs.length ≤ sizeLine ∧ ∀ p o, o.dict = none → H1 p = none → Q (.ref p) (upd H1 p (.frz o (.tup xs)))
theorem pe_tupF {X : Cx} {es : List Expr} {t : TA} {pos : Pos} {x1} (h : PA X es t) : PE X (.Tuple es x1 pos) (tTupF t) := by
  refine ⟨fun pins s σ H Q I hq => ?_⟩
  refine wpAny_Tuple_spliced (thn (h.run pos pins s σ H _ I hq) fun us s1 ⟨xs, H1, I1, r, z, q⟩ => ⟨by rw [← r.length]; exact z, ?_⟩)
  have hf : H1 s1.heap.objs.size = none := I1.hok.fresh (Nat.le_refl _)
  refine ⟨.ref s1.heap.objs.size, upd H1 s1.heap.objs.size (.frz { cls := .type "tuple", data := .seq us.toArray } (.tup xs)), I1.laid (t' := s1.toks) (fun b u e => Heap.get?_push_of_some _ e) (Nat.le_refl _) ?_, rfl, q _ _ rfl hf⟩
  exact ⟨Heap.get?_push_size _ rfl, z, us, r, ⟨_, Heap.get?_push_size _ rfl, rfl, _, rfl⟩⟩
theorem lst_r {vs : List V} (h : rDn K A mkLst vs H Q) : vs.length ≤ sizeLine ∧ ∀ p, H p = none → Q (.ref p) (upd H p (.lst vs)) := by
  obtain ⟨G, ds, r, s, rs, e, k⟩ := h
  unfold mkLst at e
  split at e
  · cases e
    rename_i q
    refine ⟨SL.szL (by rw [rs.len]; exact q), fun p n => ?_⟩
    obtain ⟨n0, rr⟩ := new_lst (K := K) (A := A) s n rs
    exact k _ _ _ n0 rr
  · cases e
theorem TA_mono {ms : List Ev} {Q Q' : List V → Hp → Prop} (h : liftA K A ms σ H Q) (k : ∀ vs H', Q vs H' → Q' vs H') : liftA K A ms σ H Q' := by
  obtain ⟨G, ρ, ds, ρ', s, e, z⟩ := h
  exact ⟨G, ρ, ds, ρ', s, e, fun vs G' H' n r => k _ _ (z vs G' H' n r)⟩
theorem pd_tup {es : List Expr} {ms : List Ev} {x1} (h : PDA A X es ms) : PD A X (.Tuple es x1 pos) (eN mkTup ms) := PE.imp (pe_tupF h) fun _ _ _ q => TA_mono (n_use q) fun _ _ => tup_r
theorem pd_key {es : List Expr} {ms : List Ev} {x1} (h : PDA A X es ms) : PD A X (.Tuple es x1 pos) (eN mkKey ms) := PE.imp (pe_tup h) fun _ _ _ q => TA_mono (n_use q) fun _ _ => key_r
theorem pd_lst {es : List Expr} {ms : List Ev} (h : PDA A X es ms) : PD A X (.List es pos) (eN mkLst ms) := PE.imp (pe_lst h) fun _ _ _ q => TA_mono (n_use q) fun _ _ => lst_r
/-! calls of built-ins -/
variable {x : Str} {p : Pos} {es : List Expr} {ms : List Ev} {id T : String}
theorem pd_callB {f : List D → R Rv} (hc : CallR X (.builtin id) (rDn X.K A f)) (hg : Gl X x) (hm : X.mg x = none) (hv : bootBuiltins x = some (.builtin id)) (ha : PDA A X (a :: es) ms) (hn : x ≠ "__name__" := by decide) (hdb : (x == ("__debug__" : Str)) = false := by decide)
    (he : starEach (a :: es) X.env = (false, eval a X.env) :: starEach es X.env := by rfl) (hpl : (backTo pos (starEach es X.env)).any (·.1) = false := by rfl) : PD A X (.Call (.Name x p) (a :: es) [] pos) (eN f ms) := PE.imp (pe_callB hc hg hm hv ha hn hdb he hpl) fun _ _ _ => n_use
theorem pd_callTy {f : List D → R Rv} (hc : CallR X (.type T) (rDn X.K A f)) (hg : Gl X x) (hm : X.mg x = none) (hv : bootBuiltins x = some (.type T)) (ha : PDA A X (a :: es) ms) (hn : x ≠ "__name__" := by decide) (hdb : (x == ("__debug__" : Str)) = false := by decide)
    (he : starEach (a :: es) X.env = (false, eval a X.env) :: starEach es X.env := by rfl) (hpl : (backTo pos (starEach es X.env)).any (·.1) = false := by rfl) : PD A X (.Call (.Name x p) (a :: es) [] pos) (eN f ms) := PE.imp (pe_callTy hc hg hm hv ha hn hdb he hpl) fun _ _ _ => n_use
end
end DY

set_option linter.all false
/-! ### the operations on data -/
namespace DY
/-- no own operator -/
def no2 : D → D → R Rv := fun _ _ => .no
def no1 : D → R Rv := fun _ => .no
def int_ (i : Int) : R Rv := .ok (.int i, false)
def bl_ (b : Bool) : R Rv := .ok (.bl b, false)
def str_ (l : List Nat) : R Rv := .ok (.str l, false)
def mulOk (i j : Int) : Bool := decide (i.natAbs.log2 + j.natAbs.log2 < 1000000)
def divOk (j : Int) : Bool := decide (j ≠ 0) && decide (j.natAbs.log2 < 9000)
def addD (own : D → D → R Rv) : D → D → R Rv
  | .int i, .int j => int_ (i + j)
  | .str a, .str b => if a.length + b.length ≤ 100000 then str_ (a ++ b) else .no
  | .lst a, .lst b => if a.length + b.length ≤ 1000 then .ok (.lst (a ++ b), true) else .no
  | .tup a, .tup b => if a.length + b.length ≤ 1000 then .ok (.tup (a ++ b), false) else .no
  | x, y => own x y
def subD (own : D → D → R Rv) : D → D → R Rv
  | .int i, .int j => int_ (i - j)
  | x, y => own x y
def mulD (own : D → D → R Rv) : D → D → R Rv
  | .int i, .int j => if mulOk i j then int_ (i * j) else .no
  | .lst a, .int k => if 0 ≤ k ∧ k ≤ 1000 ∧ a.length * k.toNat ≤ 1000 then .ok (.lst (List.replicate k.toNat a).flatten, true) else .no
  | x, y => own x y
def fdivD : D → D → R Rv
  | .int i, .int j => if divOk j then int_ (i.fdiv j) else .no
  | _, _ => .no
def modD : D → D → R Rv
  | .int i, .int j => if j = 0 then .no else int_ (i.fmod j)
  | _, _ => .no
def powD : D → D → R Rv
  | .int i, .int j => if 0 ≤ j ∧ j ≤ 1000 ∧ i.natAbs < 18446744073709551616 then int_ (i ^ j.toNat) else .no
  | _, _ => .no
def negD (own : D → R Rv) : D → R Rv
  | .int i => int_ (-i)
  | x => own x
/-! order -/
def ltN : List Nat → List Nat → Bool
  | [], [] => false
  | [], _ :: _ => true
  | _ :: _, [] => false
  | a :: r, b :: t => decide (a < b) || (decide (a = b) && ltN r t)
def ltD : D → D → R Rv
  | .int i, .int j => bl_ (decide (i < j))
  | .str a, .str b => bl_ (ltN a b)
  | _, _ => .no
def leD : D → D → R Rv
  | .int i, .int j => bl_ (decide (i ≤ j))
  | .str a, .str b => bl_ (!ltN b a)
  | _, _ => .no
def gtD : D → D → R Rv
  | .int i, .int j => bl_ (decide (j < i))
  | .str a, .str b => bl_ (ltN b a)
  | _, _ => .no
def geD : D → D → R Rv
  | .int i, .int j => bl_ (decide (j ≤ i))
  | .str a, .str b => bl_ (!ltN a b)
  | _, _ => .no
/-! equality of plain data -/
def sok (l : List Nat) : Bool := l.all fun c => decide (c < 1114112)
mutual
def dok : Nat → D → Bool
  | _, .non => true
  | _, .bl _ => true
  | _, .int _ => true
  | _, .str l => sok l
  | n + 1, .tup xs => doks n xs
  | n + 1, .kt xs => doks n xs
  | n + 1, .lst xs => doks n xs
  | n + 1, .fls xs => doks n xs
  | _, _ => false
def doks : Nat → List D → Bool
  | _, [] => true
  | n, x :: xs => dok n x && doks n xs
end
mutual
def eqv : D → D → Bool
  | .non, .non => true
  | .bl a, .bl b => a == b
  | .bl a, .int j => (if a then 1 else 0) == j
  | .int i, .bl b => i == (if b then 1 else 0)
  | .int i, .int j => i == j
  | .str a, .str b => a == b
  | .tup a, .tup b => eqvs a b
  | .tup a, .kt b => eqvs a b
  | .kt a, .tup b => eqvs a b
  | .kt a, .kt b => eqvs a b
  | .lst a, .lst b => eqvs a b
  | .lst a, .fls b => eqvs a b
  | .fls a, .lst b => eqvs a b
  | .fls a, .fls b => eqvs a b
  | _, _ => false
def eqvs : List D → List D → Bool
  | [], [] => true
  | x :: xs, y :: ys => eqv x y && eqvs xs ys
  | _, _ => false
end
def dep : Nat := 40
def eqG (own : D → D → R Rv) (x y : D) : R Rv := if dok dep x && dok dep y then bl_ (eqv x y) else own x y
def eqD (own : D → D → R Rv) : D → D → R Rv
  | .int i, .int j => bl_ (decide (i = j))
  | .str a, .str b => bl_ (decide (a = b))
  | .bl a, .bl b => bl_ (decide (a = b))
  | x, y => eqG own x y
def neG (own : D → D → R Rv) (x y : D) : R Rv := if dok dep x && dok dep y then bl_ (!eqv x y) else do
  let r ← own x y
  let b ← isB r.1
  bl_ (!b)
def neD (own : D → D → R Rv) : D → D → R Rv
  | .int i, .int j => bl_ (!decide (i = j))
  | .str a, .str b => bl_ (!decide (a = b))
  | .bl a, .bl b => bl_ (!decide (a = b))
  | x, y => neG own x y
def isN : D → D → R Rv
  | .any, .non => .no
  | .non, .non => bl_ true
  | _, .non => bl_ false
  | _, _ => .no
def notN : D → D → R Rv
  | .any, .non => .no
  | .non, .non => bl_ false
  | _, .non => bl_ true
  | _, _ => .no
/-! in -/
def flat : D → Bool
  | .non => true
  | .bl _ => true
  | .int _ => true
  | .str _ => true
  | _ => false
def inB : D → D → R Bool
  | .str [c], .str s => .ok (decide (c ∈ s))
  | .int i, .dic kvs => .ok (dget kvs (.inl i)).isSome
  | .str s, .dic kvs => .ok (dget kvs (.inr s)).isSome
  | .kt ks, .dct kvs => do
    let k ← keysOf ks
    pure (dget kvs k).isSome
  | x, .tup ds => if flat x && ds.all flat then .ok (ds.any fun z => eqv z x) else .no
  | x, .lst ds => if dok dep x && doks dep ds then .ok (ds.any fun z => eqv z x) else .no
  | x, .fls ds => if dok dep x && doks dep ds then .ok (ds.any fun z => eqv z x) else .no
  | _, _ => .no
def inD (x y : D) : R Rv := do let b ← inB x y; bl_ b
def ninD (x y : D) : R Rv := do let b ← inB x y; bl_ (!b)
/-! x[i] -/
def ixN (n : Nat) (i : Int) : Option Nat := if 0 ≤ i then (if i < n then some i.toNat else none) else if -(n : Int) ≤ i then some (i + n).toNat else none
def atI {α : Type} (xs : List α) (i : Int) : Option α := (ixN xs.length i).bind fun j => xs[j]?
def opt : Option D → R Rv
  | some d => .ok (d, false)
  | none => .no
def ixD : D → D → R Rv
  | .lst xs, .int i => opt (atI xs i)
  | .fls xs, .int i => opt (atI xs i)
  | .tup xs, .int i => opt (atI xs i)
  | .str s, .int i => if s.length ≤ 100000 then opt ((atI s i).map fun c => .str [c]) else .no
  | .dic kvs, .int i => opt (dget kvs (.inl i))
  | .dic kvs, .str s => opt (dget kvs (.inr s))
  | .dct kvs, .kt ks => do
    let k ← keysOf ks
    opt (dget kvs k)
  | _, _ => .no
/-! slices -/
def sIx (n d : Nat) : Option Int → Nat
  | none => d
  | some v => if v < 0 then (v + n).toNat else min v.toNat n
def cut {α : Type} (xs : List α) (lo hi : Option Int) : List α := (xs.drop (sIx xs.length 0 lo)).take (sIx xs.length xs.length hi - sIx xs.length 0 lo)
def sliceD (lo hi : Option Int) : D → R Rv
  | .lst xs => .ok (.lst (cut xs lo hi), true)
  | .fls xs => .ok (.lst (cut xs lo hi), true)
  | .tup xs => .ok (.tup (cut xs lo hi), false)
  | .str s => if s.length ≤ 100000 then str_ (cut s lo hi) else .no
  | _ => .no
def part : Option Ev → Env → R (Option Int × Env)
  | none, ρ => .ok (none, ρ)
  | some e, ρ => do
    let (x, ρ1) ← val e ρ
    match x with
    | .int i => .ok (some i, ρ1)
    | _ => .no
def eSlice (a : Ev) (lo hi : Option Ev) : Ev := fun ρ => do
  let (x, ρ1) ← val a ρ
  let (l, ρ2) ← part lo ρ1
  let (h, ρ3) ← part hi ρ2
  let r ← sliceD l h x
  pure (r, ρ3)
/-! built-ins -/
def lenB (own : D → R Rv) : D → R Rv
  | .str s => if s.length ≤ 100000 then int_ s.length else .no
  | .lst xs => int_ xs.length
  | .fls xs => int_ xs.length
  | .tup xs => int_ xs.length
  | .dic xs => int_ xs.length
  | x => own x
def lenD (own : D → R Rv) : List D → R Rv
  | [x] => lenB own x
  | _ => .no
def isB1 : BT → D → Option Bool
  | .int, .int _ => some true
  | .int, .bl _ => some true
  | .bool, .bl _ => some true
  | .str, .str _ => some true
  | .tuple, .tup _ => some true
  | .list, .lst _ => some true
  | .dict, .dic _ => some true
  | _, .ty _ => none
  | _, .cls _ => none
  | _, .err _ _ => none
  | _, .fls _ => none
  | _, .dct _ => none
  | _, .kt _ => none
  | _, .any => none
  | .set, _ => none
  | .xv, _ => none
  | .xl, _ => none
  | .xa, _ => none
  | _, _ => some false
def isiD : List D → R Rv
  | [x, .ty t] => match isB1 t x with
    | some b => bl_ b
    | none => .no
  | [.ins c _, .cls c'] => bl_ (decide (c = c'))
  | [.fls _, .cls _] => .no
  | [.dct _, .cls _] => .no
  | [.kt _, .cls _] => .no
  | [.ty _, .cls _] => .no
  | [.cls _, .cls _] => .no
  | [.any, .cls _] => .no
  | [.err _ _, .cls _] => .no
  | [_, .cls _] => bl_ false
  | _ => .no
def absD : List D → R Rv
  | [.int i] => int_ (if i < 0 then -i else i)
  | _ => .no
def maxD : List D → R Rv
  | [.int i, .int j] => int_ (if j > i then j else i)
  | _ => .no
def minD : List D → R Rv
  | [.int i, .int j] => int_ (if j < i then j else i)
  | _ => .no
def intD : List D → R Rv
  | [.int i] => int_ i
  | [.bl k] => int_ (if k then 1 else 0)
  | _ => .no
def boolsOf : List D → R (List Bool)
  | [] => .ok []
  | .bl b :: ds => do let bs ← boolsOf ds; pure (b :: bs)
  | _ => .no
def allD : List D → R Rv
  | [.lst ds] => do let bs ← boolsOf ds; bl_ (bs.all id)
  | _ => .no
def anyD : List D → R Rv
  | [.lst ds] => do let bs ← boolsOf ds; bl_ (bs.any id)
  | _ => .no
def strsOf : List D → R (List (List Nat))
  | [] => .ok []
  | .str b :: ds => do let bs ← strsOf ds; pure (b :: bs)
  | _ => .no
def insS (x : List Nat) : List (List Nat) → List (List Nat)
  | [] => [x]
  | y :: ys => if ltN y x then y :: insS x ys else x :: y :: ys
def tupleD : List D → R Rv
  | [.lst ds] => .ok (.tup ds, false)
  | [.tup ds] => .ok (.tup ds, false)
  | _ => .no
def pairs : List D → R (List (Ky × D))
  | [] => .ok []
  | .tup [k, v] :: ds => do
    let q ← keyOf k
    let r ← pairs ds
    pure ((q, v) :: r)
  | _ => .no
/-! methods -/
def joinS (a : List Nat) : List (List Nat) → List Nat
  | [] => []
  | x :: xs => xs.foldl (fun acc y => acc ++ a ++ y) x
def joinD : D → List D → R Rv
  | .str a, [.lst ds] => do
    let ss ← strsOf ds
    if (ss.map (·.length)).sum + ss.length * a.length ≤ 100000 then str_ (joinS a ss) else .no
  | _, _ => .no
def dgetD : D → D → D → R Rv
  | .dic kvs, .int i, z => .ok ((dget kvs (.inl i)).getD z, false)
  | .dic kvs, .str s, z => .ok ((dget kvs (.inr s)).getD z, false)
  | .dct kvs, .kt ks, z => do
    let k ← keysOf ks
    .ok ((dget kvs k).getD z, false)
  | _, _, _ => .no
/-! changes -/
def appendM : D → List D → R (D × D)
  | .lst xs, [y] => if xs.length < 1000 then .ok (.non, .lst (xs ++ [y])) else .no
  | _, _ => .no
def popM : D → List D → R (D × D)
  | .lst xs, [] => match xs[xs.length - 1]? with
    | some y => .ok (y, .lst xs.dropLast)
    | none => .no
  | .lst xs, [.int i] => if xs.length ≤ 1000 then match ixN xs.length i with
    | some j => match xs[j]? with
      | some y => .ok (y, .lst (xs.eraseIdx j))
      | none => .no
    | none => .no
    else .no
  | _, _ => .no
def putM : D → D → D → R D
  | .lst xs, .int i, v => match ixN xs.length i with
    | some j => .ok (.lst (xs.set j v))
    | none => .no
  | .dic kvs, .int i, v => if kvs.length < 1000 then .ok (.dic (dput kvs (.inl i) v)) else .no
  | .dic kvs, .str s, v => if kvs.length < 1000 then .ok (.dic (dput kvs (.inr s) v)) else .no
  | .dct kvs, .kt ks, v => do
    let k ← keysOf ks
    if kvs.length < 1000 then .ok (.dct (dput kvs k v)) else .no
  | _, _, _ => .no
def fldD (c k : Nat) : D → R Rv
  | .ins c' fs => if c = c' then opt fs[k]? else .no
  | _ => .no
/-! what is walked -/
def items : D → R (List D)
  | .lst ds => .ok ds
  | .fls ds => .ok ds
  | .tup ds => .ok ds
  | .str s => .ok (s.map fun c => .str [c])
  | _ => .no
def iVal (e : Ev) : Iv := fun ρ => do
  let (x, ρ1) ← val e ρ
  let ds ← items x
  pure (ds, ρ1)
def rng (lo : Int) : Nat → List D
  | 0 => []
  | n + 1 => .int lo :: rng (lo + 1) n
def iRange (as : List Ev) : Iv := fun ρ => do
  let (xs, ρ1) ← evs as ρ
  match xs with
  | [.int j] => if -(2 ^ 62) ≤ j ∧ j < 2 ^ 62 then .ok (rng 0 j.toNat, ρ1) else .no
  | [.int i, .int j] => if (-(2 ^ 62) ≤ i ∧ i < 2 ^ 62) ∧ -(2 ^ 62) ≤ j ∧ j < 2 ^ 62 then .ok (rng i (j - i).toNat, ρ1) else .no
  | _ => .no
/-- the keys of the dict at slot i -/
def iKeys (i : Nat) : Iv := fun ρ =>
  match ρ[i]? with
  | some (.sh (.dic kvs)) => .ok (kvs.map fun kv => kyD kv.1, ρ)
  | some (.ow (.dic kvs)) => .ok (kvs.map fun kv => kyD kv.1, ρ.set i (.sh (.dic kvs)))
  | _ => .no
end DY

set_option Elab.async false
set_option linter.all false
set_option maxRecDepth 100000
set_option maxHeartbeats 4000000
/-! ### the operations are those of the model -/
namespace DY
open PySem L2 PySem.Spec PyProof.Rows
variable [Tb]
variable {X : Cx} {A : CT}
theorem szK {n : Nat} (h : n ≤ 100000) : n ≤ sizeLine := by rw [sizeLine_eq]; omega
theorem S_app (a b : List Nat) : S a ++ S b = S (a ++ b) := by
  show (⟨a.toArray ++ b.toArray⟩ : Str) = ⟨(a ++ b).toArray⟩
  simp
theorem S_len (a : List Nat) : (S a).length = a.length := by show a.toArray.size = a.length; simp
theorem S_toList (a : List Nat) : (S a).cps.toList = a := by show a.toArray.toList = a; simp
def rCatF (K : PySem.W.Frag) : R2 := fun x y H Q => ∃ a b xs ys, x = .ref a ∧ y = .ref b ∧ SqT K H a xs ∧ SqT K H b ys ∧ xs.length + ys.length ≤ sizeLine ∧ (xs = [] → Q (.ref b) H) ∧ (xs ≠ [] → ys = [] → Q (.ref a) H) ∧ (xs ≠ [] → ys ≠ [] → ∀ p o, o.dict = none → H p = none → Q (.ref p) (upd H p (.frz o (.tup (xs ++ ys)))))
theorem op_catF : OpR X (binaryOp .Add) (rCatF X.K) := by
  intro pins s σ H x y v u Q I rx ry h
  obtain ⟨a, b, xs, ys, rfl, rfl, ha, hb, hz, q0, q1, q2⟩ := h
  cases rx
  cases ry
  obtain ⟨its, r1, p1, _⟩ := I.tuple ha
  obtain ⟨its2, r2, p2, _⟩ := I.tuple hb
  by_cases hx : xs = []
  · subst hx
    cases r1
    exact cat_tup0 p1 p2 ⟨.ref b, H, I, rfl, q0 rfl⟩
  · refine HT.cat_tup p1 p2 (fun z => hx (r1.nil_iff.mp z)) (fun z => ⟨.ref a, H, I, rfl, q1 hx (r2.nil_iff.mp z)⟩) (fun z => ?_) (by rw [← r1.length, ← r2.length]; exact hz)
    refine ⟨.ref s.heap.objs.size, _, I.laid (t' := s.toks) (o := .frz { cls := .type "tuple", data := .seq (its ++ its2).toArray } (.tup (xs ++ ys))) (fun b ob q => Heap.get?_push_of_some _ q) (Nat.le_refl _) ?_, rfl, q2 hx (fun w => z (r2.nil_iff.mpr w)) _ _ rfl (I.hok.fresh (Nat.le_refl _))⟩
    exact ⟨Heap.get?_push_size _ rfl, by rw [List.length_append]; exact hz, _, r1.append r2, IsTup.new _ _⟩
section
variable {own : D → D → R Rv}
theorem o_add (ho : OpR X (binaryOp .Add) (rD X.K A own)) : OpR X (binaryOp .Add) (rD X.K A (addD own)) := by
  intro pins s σ H x y v u Q I rx ry h
  obtain ⟨G, d1, d2, r, sb, r1, r2, e, k⟩ := id h
  unfold addD at e
  split at e
  · cases r1; cases r2; cases e
    exact op_add pins s σ H _ _ v u Q I rx ry ⟨_, _, rfl, rfl, same_end sb (.int _) k⟩
  · cases r1; cases r2
    rename_i a b
    split at e
    · rename_i q
      cases e
      exact SL.op_addSt pins s σ H _ _ v u Q I rx ry ⟨_, _, rfl, rfl, by rw [S_len, S_len]; exact szK q, by rw [S_app]; exact same_end sb (.str _) k⟩
    · cases e
  · cases r1 with | lst h1 q1 => cases r2 with | lst h2 q2 =>
    split at e
    · rename_i q
      cases e
      refine op_cat pins s σ H _ _ v u Q I rx ry ⟨_, _, _, _, rfl, rfl, sb.lst h1, sb.lst h2, SL.szL (by rw [q1.len, q2.len]; exact q), fun p n => ?_⟩
      obtain ⟨n0, rr⟩ := new_lst (K := X.K) (A := A) sb n (q1.append q2)
      exact k _ _ _ n0 rr
    · cases e
  · obtain ⟨p1, vs1, rfl, h1, q1⟩ := r1.sqT sb
    obtain ⟨p2, vs2, rfl, h2, q2⟩ := r2.sqT sb
    split at e
    · rename_i q
      cases e
      refine op_catF pins s σ H _ _ v u Q I rx ry ⟨_, _, _, _, rfl, rfl, h1, h2, SL.szL (by rw [q1.len, q2.len]; exact q), fun z => ?_, fun _ z => ?_, fun _ _ p o ho n => ?_⟩
      · subst z
        cases q1
        exact same_end sb r2 k
      · subst z
        cases q2
        rw [List.append_nil] at k
        exact same_end sb r1 k
      · obtain ⟨n0, rr⟩ := new_tup (K := X.K) (A := A) sb n ho (q1.append q2)
        exact k _ _ _ n0 (RepR.of rr)
    · cases e
  · exact ho pins s σ H x y v u Q I rx ry ⟨G, d1, d2, r, sb, r1, r2, e, k⟩
theorem o_sub (ho : OpR X (binaryOp .Sub) (rD X.K A own)) : OpR X (binaryOp .Sub) (rD X.K A (subD own)) := by
  intro pins s σ H x y v u Q I rx ry h
  obtain ⟨G, d1, d2, r, sb, r1, r2, e, k⟩ := id h
  unfold subD at e
  split at e
  · cases r1; cases r2; cases e
    exact op_sub pins s σ H _ _ v u Q I rx ry ⟨_, _, rfl, rfl, same_end sb (.int _) k⟩
  · exact ho pins s σ H x y v u Q I rx ry ⟨G, d1, d2, r, sb, r1, r2, e, k⟩
theorem reps_rep {G : Hp} {vs : List V} {ds : List D} (h : Reps X.K A G vs ds) (n : Nat) : Reps X.K A G (List.replicate n vs).flatten (List.replicate n ds).flatten := by
  induction n with
  | zero => exact .nil
  | succ n ih => rw [List.replicate_succ, List.replicate_succ, List.flatten_cons, List.flatten_cons]; exact h.append ih
theorem o_mul (ho : OpR X (binaryOp .Mult) (rD X.K A own)) : OpR X (binaryOp .Mult) (rD X.K A (mulD own)) := by
  intro pins s σ H x y v u Q I rx ry h
  obtain ⟨G, d1, d2, r, sb, r1, r2, e, k⟩ := id h
  unfold mulD at e
  split at e
  · cases r1; cases r2
    split at e
    · rename_i q
      cases e
      exact op_mulW pins s σ H _ _ v u Q I rx ry ⟨_, _, rfl, rfl, (by unfold mulOk at q; unfold CMulW; exact of_decide_eq_true q), same_end sb (.int _) k⟩
    · cases e
  · rename_i a0 k'
    cases r2
    cases r1 with | lst h1 q1 =>
    split at e
    · rename_i q
      cases e
      refine op_rep pins s σ H _ _ v u Q I rx ry ⟨_, _, _, rfl, rfl, sb.lst h1, by omega, by omega, SL.szL (by rw [q1.len]; exact q.2.2), fun p n => ?_⟩
      obtain ⟨n0, rr⟩ := new_lst (K := X.K) (A := A) sb n (reps_rep q1 k'.toNat)
      exact k _ _ _ n0 rr
    · cases e
  · exact ho pins s σ H x y v u Q I rx ry ⟨G, d1, d2, r, sb, r1, r2, e, k⟩
theorem o_no {f : Value → Value → Sem Value} : OpR X f (rD X.K A no2) := by
  intro pins s σ H x y v u Q I rx ry h
  obtain ⟨G, d1, d2, r, sb, r1, r2, e, k⟩ := h
  cases e
end
theorem o_fdiv : OpR X (binaryOp .FloorDiv) (rD X.K A fdivD) := by
  intro pins s σ H x y v u Q I rx ry h
  obtain ⟨G, d1, d2, r, sb, r1, r2, e, k⟩ := id h
  unfold fdivD at e
  split at e
  · cases r1; cases r2
    split at e
    · rename_i q
      cases e
      unfold divOk at q
      rw [Bool.and_eq_true] at q
      exact SL.op_fdivX pins s σ H _ _ v u Q I rx ry ⟨_, _, rfl, rfl, ⟨of_decide_eq_true q.1, of_decide_eq_true q.2⟩, same_end sb (.int _) k⟩
    · cases e
  · cases e
theorem o_mod : OpR X (binaryOp .Mod) (rD X.K A modD) := by
  intro pins s σ H x y v u Q I rx ry h
  obtain ⟨G, d1, d2, r, sb, r1, r2, e, k⟩ := id h
  unfold modD at e
  split at e
  · cases r1; cases r2
    split at e
    · cases e
    · rename_i q
      cases e
      exact op_modN pins s σ H _ _ v u Q I rx ry ⟨_, _, rfl, rfl, q, same_end sb (.int _) k⟩
  · cases e
theorem o_pow : OpR X (binaryOp .Pow) (rD X.K A powD) := by
  intro pins s σ H x y v u Q I rx ry h
  obtain ⟨G, d1, d2, r, sb, r1, r2, e, k⟩ := id h
  unfold powD at e
  split at e
  · cases r1; cases r2
    split at e
    · rename_i q
      cases e
      exact op_pow pins s σ H _ _ v u Q I rx ry ⟨_, _, rfl, rfl, ⟨q.1, by omega, q.2.2⟩, same_end sb (.int _) k⟩
    · cases e
  · cases e
theorem o_neg {own : D → R Rv} (ho : UnR X (unaryOp .USub) (rDu X.K A own)) : UnR X (unaryOp .USub) (rDu X.K A (negD own)) := by
  intro pins s σ H x v Q I rx h
  obtain ⟨G, d1, r, sb, r1, e, k⟩ := id h
  unfold negD at e
  split at e
  · cases r1; cases e
    exact un_neg pins s σ H _ v Q I rx ⟨_, rfl, same_end sb (.int _) k⟩
  · exact ho pins s σ H x v Q I rx ⟨G, d1, r, sb, r1, e, k⟩
theorem o_no1 {f : Value → Sem Value} : UnR X f (rDu X.K A no1) := by
  intro pins s σ H x v Q I rx h
  obtain ⟨G, d1, r, sb, r1, e, k⟩ := h
  cases e
/-! order -/
theorem ltN_eq : ∀ a b : List Nat, ltN a b = decide (a < b)
  | [], [] => by simp [ltN]
  | [], b :: bs => by simp [ltN]
  | a :: as, [] => by simp [ltN]
  | a :: as, b :: bs => by
    unfold ltN
    rw [ltN_eq as bs, Bool.eq_iff_iff]
    simp [List.cons_lt_cons_iff]
theorem o_cmp {op : CmpOp} {f : D → D → R Rv} {gi : Int → Int → Bool} {gs : List Nat → List Nat → Bool} (hf : ∀ x y r, f x y = .ok r → (∃ i j, x = .int i ∧ y = .int j ∧ r = (.bl (gi i j), false)) ∨ ∃ a b, x = .str a ∧ y = .str b ∧ r = (.bl (gs a b), false))
    (hi : OpR X (compareOp op) (rI0 fun i j => .bl (gi i j))) (hs : OpR X (compareOp op) (fun x y H Q => ∃ i j, x = .str i ∧ y = .str j ∧ Q (.bl (gs i.cps.toList j.cps.toList)) H)) : OpR X (compareOp op) (rD X.K A f) := by
  intro pins s σ H x y v u Q I rx ry h
  obtain ⟨G, d1, d2, r, sb, r1, r2, e, k⟩ := h
  rcases hf _ _ _ e with ⟨i, j, rfl, rfl, rfl⟩ | ⟨a, b, rfl, rfl, rfl⟩
  · cases r1; cases r2
    exact hi pins s σ H _ _ v u Q I rx ry ⟨_, _, rfl, rfl, same_end sb (.bl _) k⟩
  · cases r1; cases r2
    refine hs pins s σ H _ _ v u Q I rx ry ⟨_, _, rfl, rfl, ?_⟩
    rw [S_toList, S_toList]
    exact same_end sb (.bl _) k
theorem o_lt : OpR X (compareOp .Lt) (rD X.K A ltD) := o_cmp (gi := fun i j => decide (i < j)) (gs := ltN) (fun x y r e => by
    unfold ltD at e
    split at e
    · cases e; exact .inl ⟨_, _, rfl, rfl, rfl⟩
    · cases e; exact .inr ⟨_, _, rfl, rfl, rfl⟩
    · cases e) op_lt (by
    intro pins s σ H x y v u Q I rx ry ⟨i, j, e1, e2, q⟩
    exact SL.op_ltS pins s σ H x y v u Q I rx ry ⟨i, j, e1, e2, by rw [← ltN_eq]; exact q⟩)
theorem o_le : OpR X (compareOp .LtE) (rD X.K A leD) := o_cmp (gi := fun i j => decide (i ≤ j)) (gs := fun a b => !ltN b a) (fun x y r e => by
    unfold leD at e
    split at e
    · cases e; exact .inl ⟨_, _, rfl, rfl, rfl⟩
    · cases e; exact .inr ⟨_, _, rfl, rfl, rfl⟩
    · cases e) op_le (by
    intro pins s σ H x y v u Q I rx ry ⟨i, j, e1, e2, q⟩
    exact SL.op_leS pins s σ H x y v u Q I rx ry ⟨i, j, e1, e2, by rw [← ltN_eq]; exact q⟩)
theorem o_gt : OpR X (compareOp .Gt) (rD X.K A gtD) := o_cmp (gi := fun i j => decide (j < i)) (gs := fun a b => ltN b a) (fun x y r e => by
    unfold gtD at e
    split at e
    · cases e; exact .inl ⟨_, _, rfl, rfl, rfl⟩
    · cases e; exact .inr ⟨_, _, rfl, rfl, rfl⟩
    · cases e) op_gt (by
    intro pins s σ H x y v u Q I rx ry ⟨i, j, e1, e2, q⟩
    exact SL.op_gtS pins s σ H x y v u Q I rx ry ⟨i, j, e1, e2, by rw [← ltN_eq]; exact q⟩)
theorem o_ge : OpR X (compareOp .GtE) (rD X.K A geD) := o_cmp (gi := fun i j => decide (j ≤ i)) (gs := fun a b => !ltN a b) (fun x y r e => by
    unfold geD at e
    split at e
    · cases e; exact .inl ⟨_, _, rfl, rfl, rfl⟩
    · cases e; exact .inr ⟨_, _, rfl, rfl, rfl⟩
    · cases e) op_ge (by
    intro pins s σ H x y v u Q I rx ry ⟨i, j, e1, e2, q⟩
    exact SL.op_geS pins s σ H x y v u Q I rx ry ⟨i, j, e1, e2, by rw [← ltN_eq]; exact q⟩)
theorem nf_lt (x y : D) (r : Rv) (e : ltD x y = .ok r) : r.2 = false := by unfold ltD at e; split at e <;> cases e <;> rfl
theorem nf_le (x y : D) (r : Rv) (e : leD x y = .ok r) : r.2 = false := by unfold leD at e; split at e <;> cases e <;> rfl
/-! equality -/
mutual
def toP : D → PyData
  | .non => .none
  | .bl b => .bool b
  | .int i => .int i
  | .str l => .str (S l)
  | .tup xs => .tuple (toPs xs)
  | .kt xs => .tuple (toPs xs)
  | .lst xs => .list (toPs xs)
  | .fls xs => .list (toPs xs)
  | _ => .none
def toPs : List D → List PyData
  | [] => []
  | x :: xs => toP x :: toPs xs
end
theorem sok_eq (l : List Nat) : PySem.PyData.strOk (S l) = sok l := by
  unfold PySem.PyData.strOk sok S
  simp
mutual
theorem dok_p : ∀ (n : Nat) (d : D), dok n d = true → (toP d).canLay0 = true ∧ (toP d).depth ≤ n
  | n, .non, _ => ⟨rfl, Nat.zero_le _⟩
  | n, .bl _, _ => ⟨rfl, Nat.zero_le _⟩
  | n, .int _, _ => ⟨rfl, Nat.zero_le _⟩
  | n, .str l, h => ⟨by show PySem.PyData.strOk (S l) = true; rw [sok_eq]; cases n <;> exact h, Nat.zero_le _⟩
  | 0, .tup _, h => by cases h
  | 0, .kt _, h => by cases h
  | 0, .lst _, h => by cases h
  | 0, .fls _, h => by cases h
  | n + 1, .tup xs, h => by
    have := doks_p n xs h
    exact ⟨this.1, Nat.succ_le_succ this.2⟩
  | n + 1, .kt xs, h => by
    have := doks_p n xs h
    exact ⟨this.1, Nat.succ_le_succ this.2⟩
  | n + 1, .lst xs, h => by
    have := doks_p n xs h
    exact ⟨this.1, Nat.succ_le_succ this.2⟩
  | n + 1, .fls xs, h => by
    have := doks_p n xs h
    exact ⟨this.1, Nat.succ_le_succ this.2⟩
  | n, .dic _, h => by cases n <;> cases h
  | n, .dct _, h => by cases n <;> cases h
  | n, .ins _ _, h => by cases n <;> cases h
  | n, .ty _, h => by cases n <;> cases h
  | n, .cls _, h => by cases n <;> cases h
theorem doks_p : ∀ (n : Nat) (ds : List D), doks n ds = true → PyData.canLayAll0 (toPs ds) = true ∧ PyData.depthAll (toPs ds) ≤ n
  | n, [], _ => ⟨rfl, Nat.zero_le _⟩
  | n, x :: xs, h => by
    unfold doks at h
    rw [Bool.and_eq_true] at h
    have h1 := dok_p n x h.1
    have h2 := doks_p n xs h.2
    refine ⟨?_, Nat.max_le.mpr ⟨h1.2, h2.2⟩⟩
    show (PyData.canLay0 (toP x) && PyData.canLayAll0 (toPs xs)) = true
    rw [h1.1, h2.1]; rfl
end
theorem dok_shaped {n : Nat} {d : D} (hn : n ≤ 64) (h : dok n d = true) : SeqAt.shaped (toP d) = true := by
  have := dok_p n d h
  unfold SeqAt.shaped
  rw [this.1, decide_eq_true (Nat.le_trans this.2 hn)]; rfl
section
variable {K : PySem.W.Frag} {G H : Hp}
mutual
theorem rep_dp (sb : Sub G H) : ∀ (n : Nat) (d : D) (v : V), dok n d = true → Rep K A G v d → Dp K H v (toP d)
  | n, .non, _, _, r => by cases r; exact .non
  | n, .bl b, _, _, r => by cases r; exact .bl b
  | n, .int i, _, _, r => by cases r; exact .int i
  | n, .str l, _, _, r => by cases r; exact .str _
  | 0, .tup _, _, h, _ => by cases h
  | 0, .kt _, _, h, _ => by cases h
  | 0, .lst _, _, h, _ => by cases h
  | 0, .fls _, _, h, _ => by cases h
  | n + 1, .tup xs, _, h, r => by obtain ⟨p, vs, rfl, h1, q⟩ := r.sqT sb; exact .tup h1 (reps_dp sb n xs _ h q)
  | n + 1, .kt xs, _, h, r => by obtain ⟨p, vs, rfl, h1, q⟩ := r.sqK sb; exact .tup (SqT.of h1) (reps_dp sb n xs _ h q)
  | n + 1, .lst xs, _, h, r => by cases r with | lst h1 q => exact .lst (SqL.of (sb.lst h1)) (reps_dp sb n xs _ h q)
  | n + 1, .fls xs, _, h, r => by cases r with | fls h1 q => exact .lst (sb.sqL h1) (reps_dp sb n xs _ h q)
  | n, .dic _, _, h, _ => by cases n <;> cases h
  | n, .dct _, _, h, _ => by cases n <;> cases h
  | n, .ins _ _, _, h, _ => by cases n <;> cases h
  | n, .ty _, _, h, _ => by cases n <;> cases h
  | n, .cls _, _, h, _ => by cases n <;> cases h
theorem reps_dp (sb : Sub G H) : ∀ (n : Nat) (ds : List D) (vs : List V), doks n ds = true → Reps K A G vs ds → DpAll K H vs (toPs ds)
  | n, [], _, _, r => by cases r; exact .nil
  | n, x :: xs, _, h, r => by
    unfold doks at h
    rw [Bool.and_eq_true] at h
    cases r with
    | cons a b => exact .cons (rep_dp sb n x _ h.1 a) (reps_dp sb n xs _ h.2 b)
end
end
theorem S_beq (a b : List Nat) : (S a == S b) = (a == b) := by
  rw [Bool.eq_iff_iff, beq_iff_eq, beq_iff_eq]
  exact ⟨S_inj, fun h => by rw [h]⟩
mutual
theorem eqv_p : ∀ (n m : Nat) (x y : D), dok n x = true → dok m y = true → PyData.eqv (toP x) (toP y) = eqv x y
  | n, m, .non, y, _, h => by cases m <;> cases y <;> first | rfl | cases h
  | n, m, .bl _, y, _, h => by cases m <;> cases y <;> first | rfl | cases h
  | n, m, .int _, y, _, h => by cases m <;> cases y <;> first | rfl | cases h
  | n, m, .str a, y, _, h => by
    cases y with
    | str b => show (S a == S b) = (a == b); exact S_beq a b
    | _ => cases m <;> first | rfl | cases h
  | 0, m, .tup _, _, h, _ => by cases h
  | 0, m, .kt _, _, h, _ => by cases h
  | 0, m, .lst _, _, h, _ => by cases h
  | 0, m, .fls _, _, h, _ => by cases h
  | n + 1, m, .tup a, y, h0, h => by
    cases y with
    | tup b => cases m with
      | zero => cases h
      | succ m => exact eqvs_p n m a b h0 h
    | kt b => cases m with
      | zero => cases h
      | succ m => exact eqvs_p n m a b h0 h
    | _ => cases m <;> first | rfl | cases h
  | n + 1, m, .kt a, y, h0, h => by
    cases y with
    | tup b => cases m with
      | zero => cases h
      | succ m => exact eqvs_p n m a b h0 h
    | kt b => cases m with
      | zero => cases h
      | succ m => exact eqvs_p n m a b h0 h
    | _ => cases m <;> first | rfl | cases h
  | n + 1, m, .lst a, y, h0, h => by
    cases y with
    | lst b => cases m with
      | zero => cases h
      | succ m => exact eqvs_p n m a b h0 h
    | fls b => cases m with
      | zero => cases h
      | succ m => exact eqvs_p n m a b h0 h
    | _ => cases m <;> first | rfl | cases h
  | n + 1, m, .fls a, y, h0, h => by
    cases y with
    | lst b => cases m with
      | zero => cases h
      | succ m => exact eqvs_p n m a b h0 h
    | fls b => cases m with
      | zero => cases h
      | succ m => exact eqvs_p n m a b h0 h
    | _ => cases m <;> first | rfl | cases h
  | n, _, .dic _, _, h, _ => by cases n <;> cases h
  | n, _, .dct _, _, h, _ => by cases n <;> cases h
  | n, _, .ins _ _, _, h, _ => by cases n <;> cases h
  | n, _, .ty _, _, h, _ => by cases n <;> cases h
  | n, _, .cls _, _, h, _ => by cases n <;> cases h
theorem eqvs_p : ∀ (n m : Nat) (xs ys : List D), doks n xs = true → doks m ys = true → PyData.eqvAll (toPs xs) (toPs ys) = eqvs xs ys
  | n, m, [], [], _, _ => rfl
  | n, m, [], y :: ys, _, _ => rfl
  | n, m, x :: xs, [], _, _ => rfl
  | n, m, x :: xs, y :: ys, h, h' => by
    unfold doks at h h'
    rw [Bool.and_eq_true] at h h'
    show (PyData.eqv (toP x) (toP y) && PyData.eqvAll (toPs xs) (toPs ys)) = (eqv x y && eqvs xs ys)
    rw [eqv_p n m x y h.1 h'.1, eqvs_p n m xs ys h.2 h'.2]
end
section
variable {own : D → D → R Rv}
theorem o_eqG (hu : X.A.units + 64 < cLine) (ho : OpR X (compareOp .Eq) (rD X.K A own)) : OpR X (compareOp .Eq) (rD X.K A (eqG own)) := by
  intro pins s σ H x y v u Q I rx ry h
  obtain ⟨G, d1, d2, r, sb, r1, r2, e, k⟩ := id h
  unfold eqG at e
  split at e
  · rename_i q
    rw [Bool.and_eq_true] at q
    cases e
    refine op_eqD hu pins s σ H x y v u Q I rx ry ⟨_, _, rep_dp sb _ d1 x q.1 r1, rep_dp sb _ d2 y q.2 r2, dok_shaped (by decide) q.1, dok_shaped (by decide) q.2, ?_⟩
    rw [eqv_p _ _ _ _ q.1 q.2]
    exact same_end sb (.bl _) k
  · exact ho pins s σ H x y v u Q I rx ry ⟨G, d1, d2, r, sb, r1, r2, e, k⟩
theorem o_eq (hu : X.A.units + 64 < cLine) (ho : OpR X (compareOp .Eq) (rD X.K A own)) : OpR X (compareOp .Eq) (rD X.K A (eqD own)) := by
  intro pins s σ H x y v u Q I rx ry h
  obtain ⟨G, d1, d2, r, sb, r1, r2, e, k⟩ := id h
  unfold eqD at e
  split at e
  · cases r1; cases r2; cases e
    exact op_eq pins s σ H _ _ v u Q I rx ry (SL.go_eqI (same_end sb (.bl _) k))
  · rename_i a b
    cases r1; cases r2; cases e
    refine op_eq pins s σ H _ _ v u Q I rx ry (SL.go_eqS ?_)
    have z : decide (S a = S b) = decide (a = b) := by
      by_cases h : a = b
      · rw [h]; simp
      · rw [decide_eq_false h, decide_eq_false fun z => h (S_inj z)]
    rw [z]
    exact same_end sb (.bl _) k
  · cases r1; cases r2; cases e
    exact op_eq pins s σ H _ _ v u Q I rx ry (SL.go_eqB (same_end sb (.bl _) k))
  · exact o_eqG hu ho pins s σ H x y v u Q I rx ry ⟨G, d1, d2, r, sb, r1, r2, e, k⟩
/-- own !=, by what == says -/
def neOf (own : D → D → R Rv) : D → D → R Rv := fun x y => do
  let r ← own x y
  let b ← isB r.1
  bl_ (!b)
theorem o_neG (hu : X.A.units + 64 < cLine) (ho : OpR X (compareOp .NotEq) (rD X.K A (neOf own))) : OpR X (compareOp .NotEq) (rD X.K A (neG own)) := by
  intro pins s σ H x y v u Q I rx ry h
  obtain ⟨G, d1, d2, r, sb, r1, r2, e, k⟩ := id h
  unfold neG at e
  split at e
  · rename_i q
    rw [Bool.and_eq_true] at q
    cases e
    refine op_neD hu pins s σ H x y v u Q I rx ry ⟨_, _, rep_dp sb _ d1 x q.1 r1, rep_dp sb _ d2 y q.2 r2, dok_shaped (by decide) q.1, dok_shaped (by decide) q.2, ?_⟩
    rw [eqv_p _ _ _ _ q.1 q.2]
    exact same_end sb (.bl _) k
  · exact ho pins s σ H x y v u Q I rx ry ⟨G, d1, d2, r, sb, r1, r2, e, k⟩
theorem o_ne (hu : X.A.units + 64 < cLine) (ho : OpR X (compareOp .NotEq) (rD X.K A (neOf own))) : OpR X (compareOp .NotEq) (rD X.K A (neD own)) := by
  intro pins s σ H x y v u Q I rx ry h
  obtain ⟨G, d1, d2, r, sb, r1, r2, e, k⟩ := id h
  unfold neD at e
  split at e
  · cases r1; cases r2; cases e
    exact op_ne pins s σ H _ _ v u Q I rx ry (SL.go_neI (same_end sb (.bl _) k))
  · rename_i a b
    cases r1; cases r2; cases e
    refine op_ne pins s σ H _ _ v u Q I rx ry (SL.go_neS ?_)
    have z : decide (S a = S b) = decide (a = b) := by
      by_cases h : a = b
      · rw [h]; simp
      · rw [decide_eq_false h, decide_eq_false fun z => h (S_inj z)]
    rw [z]
    exact same_end sb (.bl _) k
  · cases r1; cases r2; cases e
    exact op_ne pins s σ H _ _ v u Q I rx ry (SL.go_neB (same_end sb (.bl _) k))
  · exact o_neG hu ho pins s σ H x y v u Q I rx ry ⟨G, d1, d2, r, sb, r1, r2, e, k⟩
end
theorem o_noNe : OpR X (compareOp .NotEq) (rD X.K A (neOf no2)) := by
  intro pins s σ H x y v u Q I rx ry h
  obtain ⟨G, d1, d2, r, sb, r1, r2, e, k⟩ := h
  cases e
theorem o_isN : OpR X (compareOp .Is) (rD X.K A isN) := by
  intro pins s σ H x y v u Q I rx ry h
  obtain ⟨G, d1, d2, r, sb, r1, r2, e, k⟩ := h
  unfold isN at e
  split at e
  · cases e
  · cases r1; cases r2; cases e
    exact op_isN pins s σ H _ _ v u Q I rx ry ⟨rfl, same_end sb (.bl _) k⟩
  · rename_i na n
    cases r2; cases e
    refine op_isN pins s σ H _ _ v u Q I rx ry ⟨rfl, ?_⟩
    rw [decide_eq_false (fun z => by subst z; cases r1 <;> first | exact n rfl | exact na rfl)]
    exact same_end sb (.bl _) k
  · cases e
end DY

set_option Elab.async false
set_option linter.all false
set_option maxRecDepth 100000
set_option maxHeartbeats 4000000
namespace DY
open PySem L2 PySem.Spec PyProof.Rows
variable [Tb]
section
variable {K : PySem.W.Frag} {A : CT} {G G' H H' : Hp} {Q : VK}
/-! dicts -/
theorem RepK.val {kvs : List (Key × V)} {ds : List (Ky × D)} (h : RepK K A G kvs ds) (k : Ky) : (∃ d v, dget ds k = some d ∧ valV kvs (kK k) = some v ∧ Rep K A G v d) ∨ (dget ds k = none ∧ valV kvs (kK k) = none) := by
  induction ds generalizing kvs with
  | nil => cases h; exact .inr ⟨rfl, rfl⟩
  | cons p ds ih =>
    cases h with
    | @cons q v d vs _ a b =>
      by_cases e : q = k
      · subst e
        exact .inl ⟨d, v, by unfold dget; simp, valV_pos (p := (kK q, v)) rfl, a⟩
      · have e' : ¬ kK q = kK k := fun z => e (kK_inj z)
        rcases ih b with ⟨d', v', h1, h2, h3⟩ | ⟨h1, h2⟩
        · exact .inl ⟨d', v', by unfold dget at *; simpa [e] using h1, by rw [valV_neg (p := (kK q, v)) e']; exact h2, h3⟩
        · exact .inr ⟨by unfold dget at *; simpa [e] using h1, by rw [valV_neg (p := (kK q, v)) e']; exact h2⟩
theorem map_kK_inj {a b : List Ky} (h : a.map kK = b.map kK) : a = b := List.map_inj_right (fun _ _ z => kK_inj z) |>.mp h
theorem RepT.val {kvs : List (List Key × V)} {ds : List (List Ky × D)} (h : RepT K A G kvs ds) (k : List Ky) : (∃ d v, dget ds k = some d ∧ valV kvs (k.map kK) = some v ∧ Rep K A G v d) ∨ (dget ds k = none ∧ valV kvs (k.map kK) = none) := by
  induction ds generalizing kvs with
  | nil => cases h; exact .inr ⟨rfl, rfl⟩
  | cons p ds ih =>
    cases h with
    | @cons q v d vs _ a b =>
      by_cases e : q = k
      · subst e
        exact .inl ⟨d, v, by unfold dget; simp, valV_pos (p := (q.map kK, v)) rfl, a⟩
      · have e' : ¬ q.map kK = k.map kK := fun z => e (map_kK_inj z)
        rcases ih b with ⟨d', v', h1, h2, h3⟩ | ⟨h1, h2⟩
        · exact .inl ⟨d', v', by unfold dget at *; simpa [e] using h1, by rw [valV_neg (p := (q.map kK, v)) e']; exact h2, h3⟩
        · exact .inr ⟨by unfold dget at *; simpa [e] using h1, by rw [valV_neg (p := (q.map kK, v)) e']; exact h2⟩
theorem RepK.len {kvs : List (Key × V)} {ds : List (Ky × D)} (h : RepK K A G kvs ds) : kvs.length = ds.length := by
  induction ds generalizing kvs with
  | nil => cases h; rfl
  | cons p ds ih => cases h with | cons a b => rw [List.length_cons, List.length_cons, ih b]
theorem RepT.len {kvs : List (List Key × V)} {ds : List (List Ky × D)} (h : RepT K A G kvs ds) : kvs.length = ds.length := by
  induction ds generalizing kvs with
  | nil => cases h; rfl
  | cons p ds ih => cases h with | cons a b => rw [List.length_cons, List.length_cons, ih b]
theorem RepK.any {kvs : List (Key × V)} {ds : List (Ky × D)} (h : RepK K A G kvs ds) (k : Ky) : (kvs.any fun kv => decide (kv.1 = kK k)) = (ds.any fun kv => decide (kv.1 = k)) := by
  induction ds generalizing kvs with
  | nil => cases h; rfl
  | cons p ds ih =>
    cases h with
    | @cons q v d vs _ a b =>
      rw [List.any_cons, List.any_cons, ih b]
      congr 1
      by_cases e : q = k
      · subst e; simp
      · rw [decide_eq_false e, decide_eq_false fun z => e (kK_inj z)]
theorem RepK.repl {kvs : List (Key × V)} {ds : List (Ky × D)} (h : RepK K A G kvs ds) (k : Ky) {v : V} {d : D} (r : Rep K A G v d) : RepK K A G (kvs.map fun kv => if kv.1 = kK k then (kv.1, v) else kv) (ds.map fun kv => if kv.1 = k then (kv.1, d) else kv) := by
  induction ds generalizing kvs with
  | nil => cases h; exact .nil
  | cons p ds ih =>
    cases h with
    | @cons q v' d' vs _ a b =>
      rw [List.map_cons, List.map_cons]
      by_cases e : q = k
      · rw [if_pos (congrArg kK e), if_pos e]; exact .cons r (ih b)
      · rw [if_neg fun z => e (kK_inj z), if_neg e]; exact .cons a (ih b)
theorem RepK.append {kvs ks : List (Key × V)} {ds es : List (Ky × D)} (h : RepK K A G kvs ds) (h' : RepK K A G ks es) : RepK K A G (kvs ++ ks) (ds ++ es) := by
  induction ds generalizing kvs with
  | nil => cases h; exact h'
  | cons p ds ih => cases h with | cons a b => exact .cons a (ih b)
theorem RepK.put {kvs : List (Key × V)} {ds : List (Ky × D)} (h : RepK K A G kvs ds) (k : Ky) {v : V} {d : D} (r : Rep K A G v d) : RepK K A G (putK kvs (kK k) v) (dput ds k d) := by
  unfold putK dput
  rw [h.any]
  split
  · exact h.repl k r
  · exact h.append (.cons r .nil)
theorem RepT.any {kvs : List (List Key × V)} {ds : List (List Ky × D)} (h : RepT K A G kvs ds) (k : List Ky) : (kvs.any fun kv => decide (kv.1 = k.map kK)) = (ds.any fun kv => decide (kv.1 = k)) := by
  induction ds generalizing kvs with
  | nil => cases h; rfl
  | cons p ds ih =>
    cases h with
    | @cons q v d vs _ a b =>
      rw [List.any_cons, List.any_cons, ih b]
      congr 1
      by_cases e : q = k
      · subst e; simp
      · rw [decide_eq_false e, decide_eq_false fun z => e (map_kK_inj z)]
theorem RepT.repl {kvs : List (List Key × V)} {ds : List (List Ky × D)} (h : RepT K A G kvs ds) (k : List Ky) {v : V} {d : D} (r : Rep K A G v d) : RepT K A G (kvs.map fun kv => if kv.1 = k.map kK then (kv.1, v) else kv) (ds.map fun kv => if kv.1 = k then (kv.1, d) else kv) := by
  induction ds generalizing kvs with
  | nil => cases h; exact .nil
  | cons p ds ih =>
    cases h with
    | @cons q v' d' vs _ a b =>
      rw [List.map_cons, List.map_cons]
      by_cases e : q = k
      · rw [if_pos (congrArg (List.map kK) e), if_pos e]; exact .cons r (ih b)
      · rw [if_neg fun z => e (map_kK_inj z), if_neg e]; exact .cons a (ih b)
theorem RepT.append {kvs ks : List (List Key × V)} {ds es : List (List Ky × D)} (h : RepT K A G kvs ds) (h' : RepT K A G ks es) : RepT K A G (kvs ++ ks) (ds ++ es) := by
  induction ds generalizing kvs with
  | nil => cases h; exact h'
  | cons p ds ih => cases h with | cons a b => exact .cons a (ih b)
theorem RepT.put {kvs : List (List Key × V)} {ds : List (List Ky × D)} (h : RepT K A G kvs ds) (k : List Ky) {v : V} {d : D} (r : Rep K A G v d) : RepT K A G (putK kvs (k.map kK) v) (dput ds k d) := by
  unfold putK dput
  rw [h.any]
  split
  · exact h.repl k r
  · exact h.append (.cons r .nil)
theorem keyOf_rep {v : V} {d : D} {k : Ky} (r : Rep K A G v d) (e : keyOf d = .ok k) : v = kV (kK k) ∧ d = kyD k := by
  unfold keyOf at e
  split at e
  · cases r; cases e; exact ⟨rfl, rfl⟩
  · cases r; cases e; exact ⟨rfl, rfl⟩
  · cases e
theorem keysOf_rep {ds : List D} {ks : List Ky} {vs : List V} (r : Reps K A G vs ds) (e : keysOf ds = .ok ks) : vs = (ks.map kK).map kV ∧ ds ≠ [] := by
  induction ds generalizing vs ks with
  | nil => cases e
  | cons d ds ih =>
    cases r with
    | cons a b =>
      refine ⟨?_, fun z => nomatch z⟩
      cases ds with
      | nil =>
        cases b
        obtain ⟨k, e1, e⟩ := bind_ok e
        cases e
        rw [(keyOf_rep a e1).1]; rfl
      | cons d' ds =>
        obtain ⟨k, e1, e⟩ := bind_ok e
        obtain ⟨ks', e2, e⟩ := bind_ok e
        cases e
        rw [List.map_cons, List.map_cons, ← (ih b e2).1, (keyOf_rep a e1).1]
theorem key_tup {v : V} {ds : List D} {ks : List Ky} (r : Rep K A G v (.kt ds)) (e : keysOf ds = .ok ks) (s : Sub G H) : ∃ b, v = .ref b ∧ H b = some (.tup ((ks.map kK).map kV)) := by
  obtain ⟨p, vs, rfl, h, q⟩ := r.sqK s
  rw [(keysOf_rep q e).1] at h
  exact ⟨p, rfl, h⟩
/-! a value, or an own object that is looked at -/
def RepB (K : PySem.W.Frag) (A : CT) (G H : Hp) (x : V) (d : D) : Prop := Rep K A G x d ∨ ∃ p, x = .ref p ∧ G p = none ∧ Has K A G H p d
theorem RepB.lst {x : V} {ds : List D} (s : Sub G H) (h : RepB K A G H x (.lst ds)) : ∃ p vs, x = .ref p ∧ H p = some (.lst vs) ∧ Reps K A G vs ds := by
  rcases h with h | ⟨p, e, _, vs, h1, h2⟩
  · cases h with | lst h1 h2 => exact ⟨_, _, rfl, s.lst h1, h2⟩
  · exact ⟨p, vs, e, h1, h2⟩
theorem RepB.dic {x : V} {ds : List (Ky × D)} (s : Sub G H) (h : RepB K A G H x (.dic ds)) : ∃ p kvs, x = .ref p ∧ Rd H p (.dK kvs) ∧ RepK K A G kvs ds := by
  rcases h with h | ⟨p, e, _, vs, h1, h2⟩
  · cases h with | dic h1 h2 => exact ⟨_, _, rfl, s.dK h1, h2⟩
  · exact ⟨p, vs, e, .inl h1, h2⟩
theorem RepB.dct {x : V} {ds : List (List Ky × D)} (s : Sub G H) (h : RepB K A G H x (.dct ds)) : ∃ p kvs, x = .ref p ∧ Rd H p (.dT kvs) ∧ RepT K A G kvs ds := by
  rcases h with h | ⟨p, e, _, vs, h1, h2⟩
  · cases h with | dct h1 h2 => exact ⟨_, _, rfl, s.dT h1, h2⟩
  · exact ⟨p, vs, e, .inl h1, h2⟩
theorem RepB.tup {x : V} {ds : List D} (s : Sub G H) (h : RepB K A G H x (.tup ds)) : ∃ p vs, x = .ref p ∧ SqT K H p vs ∧ Reps K A G vs ds := by
  rcases h with h | ⟨p, e, _, h⟩
  · exact h.sqT s
  · exact h.elim
theorem RepB.fls {x : V} {ds : List D} (s : Sub G H) (h : RepB K A G H x (.fls ds)) : ∃ p vs, x = .ref p ∧ SqL K H p vs ∧ Reps K A G vs ds := by
  rcases h with h | ⟨p, e, _, h⟩
  · cases h with | fls h1 h2 => exact ⟨_, _, rfl, s.sqL h1, h2⟩
  · exact h.elim
theorem RepB.str {x : V} {l : List Nat} (h : RepB K A G H x (.str l)) : x = .str (S l) := by
  rcases h with h | ⟨p, e, _, h⟩
  · cases h; rfl
  · exact h.elim
variable (K A) in
def rDb (f : D → D → R Rv) : R2 := fun x y H Q => ∃ G d1 d2 d, Sub G H ∧ RepB K A G H x d1 ∧ Rep K A G y d2 ∧ f d1 d2 = .ok (d, false) ∧ ∀ v, Rep K A G v d → Q v H
variable (K A) in
def rDc (f : D → D → R Rv) : R2 := fun x y H Q => ∃ G d1 d2 d, Sub G H ∧ Rep K A G x d1 ∧ RepB K A G H y d2 ∧ f d1 d2 = .ok (d, false) ∧ ∀ v, Rep K A G v d → Q v H
variable (K A) in
def rDb1 (f : D → R Rv) : List V → Hp → VK → Prop := fun xs H Q => ∃ G x d1 d, xs = [x] ∧ Sub G H ∧ RepB K A G H x d1 ∧ f d1 = .ok (d, false) ∧ ∀ v, Rep K A G v d → Q v H
theorem rD_b {f : D → D → R Rv} {x y : V} (nf : ∀ x y r, f x y = .ok r → r.2 = false) (h : rD K A f x y H Q) : rDb K A f x y H Q := by
  obtain ⟨G, d1, d2, ⟨d, b⟩, sb, r1, r2, e, k⟩ := h
  obtain rfl : b = false := nf _ _ _ e
  exact ⟨G, d1, d2, d, sb, .inl r1, r2, e, fun v r => k v G H (Nx0.refl sb) (RepR.of r)⟩
theorem rD_c {f : D → D → R Rv} {x y : V} (nf : ∀ x y r, f x y = .ok r → r.2 = false) (h : rD K A f x y H Q) : rDc K A f x y H Q := by
  obtain ⟨G, d1, d2, ⟨d, b⟩, sb, r1, r2, e, k⟩ := h
  obtain rfl : b = false := nf _ _ _ e
  exact ⟨G, d1, d2, d, sb, r1, .inl r2, e, fun v r => k v G H (Nx0.refl sb) (RepR.of r)⟩
theorem opt_ok {o : Option D} {d : D} {b : Bool} (h : opt o = .ok (d, b)) : o = some d ∧ b = false := by
  unfold opt at h
  split at h
  · cases h; exact ⟨rfl, rfl⟩
  · cases h
theorem nf_ix (x y : D) (r : Rv) (e : ixD x y = .ok r) : r.2 = false := by
  obtain ⟨d, b⟩ := r
  unfold ixD at e
  split at e
  · exact (opt_ok e).2
  · exact (opt_ok e).2
  · exact (opt_ok e).2
  · split at e
    · exact (opt_ok e).2
    · cases e
  · exact (opt_ok e).2
  · exact (opt_ok e).2
  · obtain ⟨_, _, e⟩ := bind_ok e; exact (opt_ok e).2
  · cases e
theorem nf_in (x y : D) (r : Rv) (e : inD x y = .ok r) : r.2 = false := by
  obtain ⟨_, _, e⟩ := bind_ok e
  cases e; rfl
theorem nf_nin (x y : D) (r : Rv) (e : ninD x y = .ok r) : r.2 = false := by
  obtain ⟨_, _, e⟩ := bind_ok e
  cases e; rfl
theorem atI_rep {vs : List V} {ds : List D} {i : Int} {d : D} (r : Reps K A G vs ds) (e : DY.atI ds i = some d) : ∃ v, L2.atI vs i = some v ∧ Rep K A G v d := by
  unfold DY.atI at e
  unfold L2.atI
  rw [r.len]
  obtain ⟨j, h1, h2⟩ := Option.bind_eq_some_iff.mp e
  obtain ⟨v, h3, h4⟩ := r.get' h2
  exact ⟨v, Option.bind_eq_some_iff.mpr ⟨j, h1, h3⟩, h4⟩
end
variable {X : Cx} {A : CT}
/-- d[y] by values -/
theorem ix_dict (hu : X.A.units + 1 < cLine) : IxR X (fun x y H Q => ∃ a v, x = .ref a ∧ DGet H a y (some v) ∧ Q v H) := by
  intro value slice pins s σ H x y v u Q I rx ry h hs
  obtain ⟨a, w, rfl, g, q⟩ := h
  obtain rfl : v = Value.ref a := rx
  have hT := dict_typeIs I g
  unfold subscriptTail
  refine wpAny_bind ?_
  rw [getitemInPython_of_ne hT.not_modules]
  refine wpAny_bind (wpAny_specialOf hT PySem.F.slot_dict_getitem.lookup ?_)
  have fin : wpAny (model X.prog X.w) X.A (subscripted slice false (.ref a) u) (fun r s₃ => wpAny (model X.prog X.w) X.A (letTemporaryGo value (.ref a) r >>= fun _ => pure r) (EP X pins σ Q) X.xe s₃) X.xe s := by
    rw [hs]
    exact wpAny_operating (d_getItem hu I g ry fun w' s3 I3 rw' => wpAny_bind (wpAny_letTemporaryGo (wpAny_pure ⟨w, H, I3, rw', q⟩)))
  first
    | exact wpAny_pure (wpAny_bind fin)
    | exact wpAny_bind (wpAny_pure (wpAny_bind fin))
    | exact wpAny_bind fin
theorem DGet.kr {H : Hp} {a : Addr} {kvs : List (Key × V)} {k : Key} (e : Rd H a (.dK kvs)) : DGet H a (kV k) (valV kvs k) := .inl ⟨kvs, k, e, rfl, rfl⟩
theorem DGet.tr {H : Hp} {a b : Addr} {kvs : List (List Key × V)} {k : List Key} (e : Rd H a (.dT kvs)) (eb : H b = some (.tup (k.map kV))) : DGet H a (.ref b) (valV kvs k) := .inr ⟨kvs, k, b, e, rfl, eb, rfl⟩
theorem o_ixb (hu : X.A.units + 1 < cLine) : IxR X (rDb X.K A ixD) := by
  intro value slice pins s σ H x y v u Q I rx ry h hs
  obtain ⟨G, d1, d2, d, sb, r1, r2, e, k⟩ := h
  unfold ixD at e
  split at e
  · cases r2
    obtain ⟨p, vs, rfl, h1, q1⟩ := r1.lst sb
    obtain ⟨w, h2, h3⟩ := atI_rep q1 (opt_ok e).1
    exact ix_list value slice pins s σ H _ _ v u Q I rx ry ⟨p, vs, _, w, rfl, rfl, SqL.of h1, h2, k _ h3⟩ hs
  · cases r2
    obtain ⟨p, vs, rfl, h1, q1⟩ := r1.fls sb
    obtain ⟨w, h2, h3⟩ := atI_rep q1 (opt_ok e).1
    exact ix_list value slice pins s σ H _ _ v u Q I rx ry ⟨p, vs, _, w, rfl, rfl, h1, h2, k _ h3⟩ hs
  · cases r2
    obtain ⟨p, vs, rfl, h1, q1⟩ := r1.tup sb
    obtain ⟨w, h2, h3⟩ := atI_rep q1 (opt_ok e).1
    exact ix_tup value slice pins s σ H _ _ v u Q I rx ry ⟨p, vs, _, w, rfl, rfl, h1, h2, k _ h3⟩ hs
  · cases r2
    obtain rfl := r1.str
    split at e
    · rename_i q
      obtain ⟨c, h1, h2⟩ := Option.map_eq_some_iff.mp (opt_ok e).1
      subst h2
      exact ix_str value slice pins s σ H _ _ v u Q I rx ry ⟨_, _, c, rfl, rfl, by rw [S_len]; exact szK q, by rw [S_toList]; exact h1, k _ (.str [c])⟩ hs
    · cases e
  · cases r2
    rename_i kvs i
    obtain ⟨p, k', rfl, h1, q1⟩ := r1.dic sb
    rcases q1.val (.inl i) with ⟨d', w, h2, h3, h4⟩ | ⟨h2, h3⟩
    · rw [h2] at e
      obtain ⟨e, _⟩ := opt_ok e
      cases e
      exact ix_dict hu value slice pins s σ H _ _ v u Q I rx ry ⟨p, w, rfl, h3 ▸ DGet.kr (k := .inl i) h1, k _ h4⟩ hs
    · rw [h2] at e; cases e
  · cases r2
    rename_i kvs l
    obtain ⟨p, k', rfl, h1, q1⟩ := r1.dic sb
    rcases q1.val (.inr l) with ⟨d', w, h2, h3, h4⟩ | ⟨h2, h3⟩
    · rw [h2] at e
      obtain ⟨e, _⟩ := opt_ok e
      cases e
      exact ix_dict hu value slice pins s σ H _ _ v u Q I rx ry ⟨p, w, rfl, h3 ▸ DGet.kr (k := .inr (S l)) h1, k _ h4⟩ hs
    · rw [h2] at e; cases e
  · rename_i kvs ks
    obtain ⟨kk, e0, e⟩ := bind_ok e
    obtain ⟨p, k', rfl, h1, q1⟩ := r1.dct sb
    obtain ⟨b, rfl, hb⟩ := key_tup r2 e0 sb
    rcases q1.val kk with ⟨d', w, h2, h3, h4⟩ | ⟨h2, h3⟩
    · rw [h2] at e
      obtain ⟨e, _⟩ := opt_ok e
      cases e
      exact ix_dict hu value slice pins s σ H _ _ v u Q I rx ry ⟨p, w, rfl, h3 ▸ DGet.tr h1 hb, k _ h4⟩ hs
    · rw [h2] at e; cases e
  · cases e
theorem o_ix (hu : X.A.units + 1 < cLine) : IxR X (rD X.K A ixD) := fun value slice pins s σ H x y v u Q I rx ry h hs => o_ixb hu value slice pins s σ H x y v u Q I rx ry (rD_b nf_ix h) hs
/-! in -/
theorem flat_eq {K : PySem.W.Frag} {G : Hp} {v w : V} {d e : D} (r : Rep K A G v d) (r' : Rep K A G w e) (f : flat d = true) (f' : flat e = true) : eqV v w = eqv d e := by
  cases r <;> first | (cases f; done) | (cases r' <;> first | (cases f'; done) | rfl | exact S_beq _ _)
theorem flat_v {K : PySem.W.Frag} {G : Hp} {v : V} {d : D} (r : Rep K A G v d) (f : flat d = true) : flatV v = true := by
  cases r <;> first | (cases f; done) | rfl
theorem flat_all {K : PySem.W.Frag} {G : Hp} {vs : List V} {ds : List D} (r : Reps K A G vs ds) (f : ds.all flat = true) : vs.all flatV = true := by
  induction ds generalizing vs with
  | nil => cases r; rfl
  | cons d ds ih =>
    cases r with
    | cons a b =>
      rw [List.all_cons, Bool.and_eq_true] at f
      rw [List.all_cons, flat_v a f.1, ih b f.2]; rfl
theorem flat_any {K : PySem.W.Frag} {G : Hp} {vs : List V} {ds : List D} {w : V} {e : D} (r : Reps K A G vs ds) (f : ds.all flat = true) (r' : Rep K A G w e) (f' : flat e = true) : inV w vs = ds.any fun z => eqv z e := by
  unfold inV
  induction ds generalizing vs with
  | nil => cases r; rfl
  | cons d ds ih =>
    cases r with
    | cons a b =>
      rw [List.all_cons, Bool.and_eq_true] at f
      rw [List.any_cons, List.any_cons, ih b f.2, flat_eq a r' f.1 f']
theorem any_p {n m : Nat} {x : D} (hx : dok m x = true) : ∀ {ds : List D}, doks n ds = true → ((toPs ds).any fun z => PyData.eqv z (toP x)) = ds.any fun z => eqv z x
  | [], _ => rfl
  | d :: ds, h => by
    unfold doks at h
    rw [Bool.and_eq_true] at h
    show (PyData.eqv (toP d) (toP x) || (toPs ds).any fun z => PyData.eqv z (toP x)) = (eqv d x || ds.any fun z => eqv z x)
    rw [eqv_p n m d x h.1 hx, any_p hx h.2]
theorem doks_shaped {n : Nat} {ds : List D} (hn : n < 64) (h : doks n ds = true) : SeqAt.shaped (.list (toPs ds)) = true := dok_shaped (n := n + 1) (d := .lst ds) (by omega) h
/-- what the two rules share -/
theorem inB_use {op : CmpOp} {g : Bool → Bool} (hu : X.A.units + 65 < cLine)
    (h1 : OpR X (compareOp op) (fun x y H Q => ∃ (c : Nat) (z : Str), x = .str ⟨#[c]⟩ ∧ y = .str z ∧ Q (.bl (g (decide (c ∈ z.cps.toList)))) H))
    (h2 : OpR X (compareOp op) (fun y x H Q => ∃ a o, x = .ref a ∧ DGet H a y o ∧ Q (.bl (g o.isSome)) H))
    (h3 : OpR X (compareOp op) (fun x y H Q => ∃ p xs, y = .ref p ∧ (SqL X.K H p xs ∨ SqT X.K H p xs) ∧ flatV x = true ∧ xs.all flatV = true ∧ Q (.bl (g (inV x xs))) H))
    (h4 : OpR X (compareOp op) (fun x y H Q => ∃ d ds, Dp X.K H x d ∧ Dp X.K H y (.list ds) ∧ SeqAt.shaped d = true ∧ SeqAt.shaped (.list ds) = true ∧ Q (.bl (g (ds.any fun z => PyData.eqv z d))) H)) :
    OpR X (compareOp op) (rDc X.K A (fun x y => do let b ← inB x y; bl_ (g b))) := by
  intro pins s σ H x y v u Q I rx ry h
  obtain ⟨G, d1, d2, d, sb, r1, r2, e, k⟩ := h
  obtain ⟨b, e1, e'⟩ := bind_ok e
  cases e'
  clear e
  have e := e1
  clear e1
  unfold inB at e
  split at e
  · cases r1
    obtain rfl := r2.str
    cases e
    exact h1 pins s σ H _ _ v u Q I rx ry ⟨_, _, rfl, rfl, by rw [S_toList]; exact k _ (.bl _)⟩
  · cases r1
    rename_i i kvs
    obtain ⟨p, k', rfl, q0, q1⟩ := r2.dic sb
    cases e
    refine h2 pins s σ H _ _ v u Q I rx ry ⟨p, _, rfl, DGet.kr (k := .inl i) q0, ?_⟩
    rcases q1.val (.inl i) with ⟨d', w, h2, h3, h4⟩ | ⟨h2, h3⟩
    · rw [show valV k' (.inl i) = some w from h3]; rw [h2] at k; exact k _ (.bl _)
    · rw [show valV k' (.inl i) = none from h3]; rw [h2] at k; exact k _ (.bl _)
  · cases r1
    rename_i l kvs
    obtain ⟨p, k', rfl, q0, q1⟩ := r2.dic sb
    cases e
    refine h2 pins s σ H _ _ v u Q I rx ry ⟨p, _, rfl, DGet.kr (k := .inr (S l)) q0, ?_⟩
    rcases q1.val (.inr l) with ⟨d', w, h2, h3, h4⟩ | ⟨h2, h3⟩
    · rw [show valV k' (.inr (S l)) = some w from h3]; rw [h2] at k; exact k _ (.bl _)
    · rw [show valV k' (.inr (S l)) = none from h3]; rw [h2] at k; exact k _ (.bl _)
  · rename_i ks kvs
    obtain ⟨kk, e0, e⟩ := bind_ok e
    cases e
    obtain ⟨p, k', rfl, q0, q1⟩ := r2.dct sb
    obtain ⟨b, rfl, hb⟩ := key_tup r1 e0 sb
    refine h2 pins s σ H _ _ v u Q I rx ry ⟨p, _, rfl, DGet.tr q0 hb, ?_⟩
    rcases q1.val kk with ⟨d', w, h2, h3, h4⟩ | ⟨h2, h3⟩
    · rw [h3]; rw [h2] at k; exact k _ (.bl _)
    · rw [h3]; rw [h2] at k; exact k _ (.bl _)
  · obtain ⟨p, vs, rfl, q0, q1⟩ := r2.tup sb
    split at e
    · rename_i q
      rw [Bool.and_eq_true] at q
      cases e
      exact h3 pins s σ H _ _ v u Q I rx ry ⟨p, vs, rfl, .inr q0, flat_v r1 q.1, flat_all q1 q.2, by rw [flat_any q1 q.2 r1 q.1]; exact k _ (.bl _)⟩
    · cases e
  · obtain ⟨p, vs, rfl, q0, q1⟩ := r2.lst sb
    split at e
    · rename_i q
      rw [Bool.and_eq_true] at q
      cases e
      exact h4 pins s σ H _ _ v u Q I rx ry ⟨_, _, rep_dp sb _ _ _ q.1 r1, .lst (SqL.of q0) (reps_dp sb _ _ _ q.2 q1), dok_shaped (by decide) q.1, doks_shaped (by decide) q.2, by rw [any_p q.1 q.2]; exact k _ (.bl _)⟩
    · cases e
  · obtain ⟨p, vs, rfl, q0, q1⟩ := r2.fls sb
    split at e
    · rename_i q
      rw [Bool.and_eq_true] at q
      cases e
      exact h4 pins s σ H _ _ v u Q I rx ry ⟨_, _, rep_dp sb _ _ _ q.1 r1, .lst q0 (reps_dp sb _ _ _ q.2 q1), dok_shaped (by decide) q.1, doks_shaped (by decide) q.2, by rw [any_p q.1 q.2]; exact k _ (.bl _)⟩
    · cases e
  · cases e
theorem op_dIn (hu : X.A.units + 1 < cLine) : OpR X (compareOp .In) (fun y x H Q => ∃ a o, x = .ref a ∧ DGet H a y o ∧ Q (.bl o.isSome) H) := by
  intro pins s σ H x y v u Q I rx ry ⟨a, o, e, g, q⟩
  subst e
  obtain rfl : u = Value.ref a := ry
  exact d_in hu I g rx fun s3 I3 => ⟨.bl o.isSome, H, I3, rfl, q⟩
theorem op_dNotIn (hu : X.A.units + 1 < cLine) : OpR X (compareOp .NotIn) (fun y x H Q => ∃ a o, x = .ref a ∧ DGet H a y o ∧ Q (.bl (!o.isSome)) H) := by
  intro pins s σ H x y v u Q I rx ry ⟨a, o, e, g, q⟩
  subst e
  obtain rfl : u = Value.ref a := ry
  exact d_notIn hu I g rx fun s3 I3 => ⟨.bl (!o.isSome), H, I3, rfl, q⟩
theorem o_inc (hu : X.A.units + 65 < cLine) : OpR X (compareOp .In) (rDc X.K A inD) := inB_use (g := id) hu op_in_sign (op_dIn (by omega)) op_in_seq (op_inD hu)
theorem o_ninc (hu : X.A.units + 65 < cLine) : OpR X (compareOp .NotIn) (rDc X.K A ninD) := inB_use (g := fun b => !b) hu op_notIn_sign (op_dNotIn (by omega)) op_notIn_seq (op_notInD hu)
theorem o_in (hu : X.A.units + 65 < cLine) : OpR X (compareOp .In) (rD X.K A inD) := fun pins s σ H x y v u Q I rx ry h => o_inc hu pins s σ H x y v u Q I rx ry (rD_c nf_in h)
end DY

set_option Elab.async false
set_option linter.all false
set_option maxRecDepth 100000
namespace SL

/-! ### sizes -/
/-- below 2 ^ k in size -/
def Bd (k : Nat) (z : Int) : Prop := z.natAbs < 2 ^ k
/-! ### lowest terms -/
/-- the greatest common divisor as an int -/
def gI (n d : Int) : Int := (Int.gcd n d : Int)
/-- numerator and denominator in lowest terms -/
def nm (n d : Int) : Int := n / gI n d
def dn (n d : Int) : Int := d / gI n d
end SL

set_option Elab.async false
set_option linter.all false
set_option maxRecDepth 100000
set_option maxHeartbeats 4000000
namespace SL
open PySem L2 PySem.Spec PyProof.Rows

/-- the classes' addresses; cls: those that values may be of -/
structure Cl where
  C_Ratio : Addr := 0
  C_Form : Addr := 0
  C_Facts : Addr := 0
  C_Puppet : Addr := 0
  C_Script : Addr := 0
  C_Run : Addr := 0
  C_Wish : Addr := 0
  C_InvalidNumber : Addr := 0
  C_InvalidText : Addr := 0
  C_InvalidForm : Addr := 0
  emp : Addr := 0
  cls : List Addr := []
/-- what kind a value is of -/
inductive Ty where
  | non | bl | int | str | lst | tup | dic | cls (C : Addr)
  deriving DecidableEq
/-- what the written part must show of a class of values -/
structure CF (K : PySem.W.Frag) (C : Addr) : Prop where
  cl : Cls K C
  ha : PySem.W.findIn K (.ref C) "__class__" = some (some (.builtin "object.__class__"))
  hn : PySem.W.specialIn K (.builtin "object.__class__") "__get__" = some (some (.builtin "getset_descriptor.__get__"))
  ht : PySem.W.takesIn K (.builtin "object.__class__") = some true
  hm : PySem.W.mroIn K C (.type "object") = some true
  kb : ∀ T ∈ (["int", "bool", "str", "tuple", "list", "dict"] : List String), PySem.W.kitOne K (.ref C) (.type T) = some false
  kt : ∀ T ∈ (["NoneType", "bool", "int", "str", "list", "tuple", "dict"] : List String), PySem.W.kitOne K (.type T) (.ref C) = some false
  nf : ∀ T ∈ (["NoneType", "bool", "int", "str", "list", "tuple", "dict"] : List String), PySem.W.notFirst K C (.type T) = true
section
variable {K : PySem.W.Frag} {a : Cl} {H : Hp} {v : V} {t : Ty} {Q : VK}
end
end SL

set_option Elab.async false
set_option linter.all false
set_option maxRecDepth 100000
set_option maxHeartbeats 4000000
namespace DY
open PySem L2 PySem.Spec PyProof.Rows
variable [Tb]
section
variable {K : PySem.W.Frag} {A : CT} {G G' G1 G2 H H' H1 H2 : Hp} {σ : L2.St} {ρ ρ1 ρ2 ρ' : Env} {Q : VK}
/-! ### looks at slots -/
theorem look_ok {i : Nat} {d : D} (h : look ρ i = .ok d) : ρ[i]? = some (.sh d) ∨ ρ[i]? = some (.ow d) := by
  unfold look at h
  split at h
  · cases h; rename_i q; exact .inl q
  · cases h; rename_i q; exact .inr q
  · cases h
theorem look_at {i : Nat} {d : D} (s : St K A σ G H ρ) (h : look ρ i = .ok d) : ∃ v, σ[i]? = some (some v) ∧ RepB K A G H v d := by
  rcases look_ok h with h | h
  · obtain ⟨v, e, r⟩ := s.slot i _ h
    exact ⟨v, getD_some e, .inl r⟩
  · obtain ⟨p, e, n, z⟩ := s.slot i _ h
    exact ⟨.ref p, getD_some e, .inr ⟨p, rfl, n, z⟩⟩
theorem bor_use {f : D → D → R Rv} {i : Nat} {mb : Ev} (nf : ∀ x y r, f x y = .ok r → r.2 = false) (h : liftE K A (eBor f i mb) σ H Q) : tVar i σ H fun x H1 => liftE K A mb σ H1 fun y H2 => rDb K A f x y H2 Q := by
  obtain ⟨G, ρ, r, ρ', s, e, k⟩ := h
  obtain ⟨d0, e0, e⟩ := bind_ok e
  obtain ⟨⟨d2, ρ1⟩, e1, e⟩ := bind_ok e
  obtain ⟨d1, e2, e⟩ := bind_ok e
  obtain ⟨⟨d, b⟩, e3, e⟩ := bind_ok e
  obtain rfl : b = false := nf _ _ _ e3
  cases e
  obtain ⟨v, hv, _⟩ := look_at s e0
  refine ⟨v, hv, use_val s e1 fun y G1 H1 n r2 => ?_⟩
  obtain ⟨v', hv', r1⟩ := look_at n.st e2
  rw [hv] at hv'
  cases hv'
  exact ⟨G1, d1, d2, d, n.st.sub, r1, r2, e3, fun w rw' => k w G1 H1 n (RepR.of rw')⟩
theorem borR_use {f : D → D → R Rv} {i : Nat} {ma : Ev} (nf : ∀ x y r, f x y = .ok r → r.2 = false) (h : liftE K A (eBorR f ma i) σ H Q) : liftE K A ma σ H fun x H1 => tVar i σ H1 fun y H2 => rDc K A f x y H2 Q := by
  obtain ⟨G, ρ, r, ρ', s, e, k⟩ := h
  obtain ⟨⟨d2, ρ1⟩, e1, e⟩ := bind_ok e
  obtain ⟨d1, e2, e⟩ := bind_ok e
  obtain ⟨⟨d, b⟩, e3, e⟩ := bind_ok e
  obtain rfl : b = false := nf _ _ _ e3
  cases e
  refine use_val s e1 fun y G1 H1 n r2 => ?_
  obtain ⟨v', hv', r1⟩ := look_at n.st e2
  exact ⟨v', hv', G1, d2, d1, d, n.st.sub, r2, r1, e3, fun w rw' => k w G1 H1 n (RepR.of rw')⟩
theorem bor1_use {f : D → R Rv} {i : Nat} (nf : ∀ x r, f x = .ok r → r.2 = false) (h : liftE K A (eBor1 f i) σ H Q) : tCons (tVar i) tNil σ H fun xs H2 => rDb1 K A f xs H2 Q := by
  obtain ⟨G, ρ, r, ρ', s, e, k⟩ := h
  obtain ⟨d1, e2, e⟩ := bind_ok e
  obtain ⟨⟨d, b⟩, e3, e⟩ := bind_ok e
  obtain rfl : b = false := nf _ _ e3
  cases e
  obtain ⟨v', hv', r1⟩ := look_at s e2
  exact ⟨v', hv', G, v', d1, d, rfl, s.sub, r1, e3, fun w rw' => k w G H (Nx.refl s) (RepR.of rw')⟩
end
section
variable {X : Cx} {A : CT} {a b : Expr} {ma mb : Ev} {pos pos' p : Pos} {x : Str}
theorem pd_borix {i : Nat} (hu : X.A.units + 1 < cLine) (h : PE X (.Name x pos') (tVar i)) (hb : PD A X b mb) (hs : PlainIx b) : PD A X (.Subscript (.Name x pos') b pos) (eBor ixD i mb) := PE.imp (pe_ix (o_ixb hu) h hb hs) fun _ _ _ => bor_use nf_ix
theorem pd_borin {i : Nat} (hu : X.A.units + 65 < cLine) (ha : PD A X a ma) (h : PE X (.Name x pos') (tVar i)) (hm : behindInMarks .In (.Name x pos') = false) : PD A X (.Compare a [.In] [.Name x pos'] pos) (eBorR inD ma i) := PE.imp (pe_cmpR (o_inc hu) ha h hm) fun _ _ _ => borR_use nf_in
theorem pd_bornin {i : Nat} (hu : X.A.units + 65 < cLine) (ha : PD A X a ma) (h : PE X (.Name x pos') (tVar i)) (hm : behindInMarks .NotIn (.Name x pos') = false) : PD A X (.Compare a [.NotIn] [.Name x pos'] pos) (eBorR ninD ma i) := PE.imp (pe_cmpR (o_ninc hu) ha h hm) fun _ _ _ => borR_use nf_nin
theorem pdt_borin {i : Nat} (hu : X.A.units + 65 < cLine) (ha : PD A X a ma) (h : PE X (.Name x pos') (tVar i)) (hm : behindInMarks .In (.Name x pos') = false) : PDT A X (.Compare a [.In] [.Name x pos'] pos) (eBorR inD ma i) := PT.imp (pt_cmpR (o_inc hu) ha h hm) fun _ _ _ h => borR_use nf_in (test_use h)
theorem pdt_bornin {i : Nat} (hu : X.A.units + 65 < cLine) (ha : PD A X a ma) (h : PE X (.Name x pos') (tVar i)) (hm : behindInMarks .NotIn (.Name x pos') = false) : PDT A X (.Compare a [.NotIn] [.Name x pos'] pos) (eBorR ninD ma i) := PT.imp (pt_cmpR (o_ninc hu) ha h hm) fun _ _ _ h => borR_use nf_nin (test_use h)
end
/-! ### slices -/
section
variable {K : PySem.W.Frag} {A : CT} {G H : Hp} {σ : L2.St} {Q : VK}
variable (K A) in
def liftO (m : Option Ev) : TO := fun σ H Q => ∃ G ρ l ρ', St K A σ G H ρ ∧ part m ρ = .ok (l, ρ') ∧ ∀ G' H', Nx K A σ G H ρ G' H' ρ' → Q l H'
abbrev PDO (A : CT) (X : Cx) (e : Option Expr) (m : Option Ev) : Prop := PO X e (liftO X.K A m)
theorem PO.imp {X : Cx} {e : Option Expr} {t t' : TO} (h : PO X e t) (k : ∀ σ H Q, t' σ H Q → t σ H Q) : PO X e t' := ⟨fun pins s σ H Q I q => h.run pins s σ H Q I (k σ H Q q)⟩
theorem pdo_none {X : Cx} : PDO A X none none := PO.imp po_none fun σ H Q h => by
  obtain ⟨G, ρ, l, ρ', s, e, k⟩ := h
  cases e
  exact k G H (Nx.refl s)
theorem pdo_some {X : Cx} {e : Expr} {m : Ev} (he : PD A X e m) : PDO A X (some e) (some m) := PO.imp (po_some he) fun σ H Q h => by
  obtain ⟨G, ρ, l, ρ', s, e, k⟩ := h
  obtain ⟨⟨x, ρ1⟩, e1, e⟩ := bind_ok e
  refine use_val s e1 fun v G1 H1 n r => ?_
  dsimp only at e
  split at e
  · cases e
    cases r
    exact ⟨_, rfl, k G1 H1 n⟩
  · cases e
variable (K A) in
def rSlD : V → Option Int → Option Int → Hp → VK → Prop := fun x lo hi H Q => rDu K A (sliceD lo hi) x H Q
theorem cutV_reps {vs : List V} {ds : List D} (r : Reps K A G vs ds) (lo hi : Option Int) : Reps K A G (cutV vs lo hi) (cut ds lo hi) := by
  unfold cutV cut
  rw [r.len]
  exact (r.drop _).take _
theorem cut_whole {α : Type} {xs : List α} {lo hi : Option Int} (h1 : DY.sIx xs.length 0 lo = 0) (h2 : DY.sIx xs.length xs.length hi = xs.length) : cut xs lo hi = xs := by
  unfold cut
  rw [h1, h2]; simp
def rSlF (K : PySem.W.Frag) : V → Option Int → Option Int → Hp → VK → Prop := fun x lo hi H Q => ∃ a xs, x = .ref a ∧ SqT K H a xs ∧
  (HT.sIx xs.length 0 lo = 0 ∧ HT.sIx xs.length xs.length hi = xs.length → Q (.ref a) H) ∧ (¬ (HT.sIx xs.length 0 lo = 0 ∧ HT.sIx xs.length xs.length hi = xs.length) → ∀ p o, o.dict = none → H p = none → Q (.ref p) (upd H p (.frz o (.tup (cutV xs lo hi)))))
theorem sl_tupF {X : Cx} : SlR X (rSlF X.K) := by
  intro pins s σ H x v vl vu lo hi sl Q I rx hs pl pu h
  obtain ⟨a, xs, rfl, hx, q1, q2⟩ := h
  cases rx
  obtain ⟨its, r, ht, hz⟩ := I.tuple hx
  have hlen : its.toArray.size = xs.length := by rw [List.size_toArray]; exact r.length.symm
  refine ⟨"tuple", _, PyProof.Rows.slot_tuple_getitem.lookup, ht.typeIs, ?_⟩
  by_cases hw : HT.sIx xs.length 0 lo = 0 ∧ HT.sIx xs.length xs.length hi = xs.length
  · exact getItem_tuple_whole ht hs pl pu (by rw [hlen]; exact hw) ⟨.ref a, H, I, rfl, q1 hw⟩
  · refine HT.getItem_tuple_cut ht hs pl pu (by rw [hlen]; exact hw) ?_ (by rw [hlen]; exact hz)
    rw [hlen]
    refine ⟨.ref s.heap.objs.size, _, I.laid (t' := s.toks) (o := .frz { cls := .type "tuple", data := .seq ((its.toArray.toList.drop (HT.sIx xs.length 0 lo)).take (HT.sIx xs.length xs.length hi - HT.sIx xs.length 0 lo)).toArray } (.tup (cutV xs lo hi))) (fun b ob q => Heap.get?_push_of_some _ q) (Nat.le_refl _) ?_, rfl, q2 hw _ _ rfl (I.hok.fresh (Nat.le_refl _))⟩
    exact ⟨Heap.get?_push_size _ rfl, Nat.le_trans (cutV_length xs lo hi) hz, _, (r.drop (HT.sIx xs.length 0 lo)).take (HT.sIx xs.length xs.length hi - HT.sIx xs.length 0 lo), IsTup.new _ _⟩
theorem o_slice {X : Cx} : SlR X (rSlD X.K A) := by
  intro pins s σ H x v vl vu lo hi sl Q I rx hs pl pu h
  obtain ⟨G, d, r, sb, r1, e, k⟩ := h
  unfold sliceD at e
  split at e
  · cases r1 with | lst h1 q1 =>
    cases e
    refine sl_list pins s σ H _ v vl vu lo hi sl Q I rx hs pl pu ⟨_, _, rfl, SqL.of (sb.lst h1), fun p n => ?_⟩
    obtain ⟨n0, rr⟩ := new_lst (K := X.K) (A := A) sb n (cutV_reps q1 lo hi)
    exact k _ _ _ n0 rr
  · cases r1 with | fls h1 q1 =>
    cases e
    refine sl_list pins s σ H _ v vl vu lo hi sl Q I rx hs pl pu ⟨_, _, rfl, sb.sqL h1, fun p n => ?_⟩
    obtain ⟨n0, rr⟩ := new_lst (K := X.K) (A := A) sb n (cutV_reps q1 lo hi)
    exact k _ _ _ n0 rr
  · obtain ⟨p, vs, rfl, h1, q1⟩ := r1.sqT sb
    cases e
    refine sl_tupF pins s σ H _ v vl vu lo hi sl Q I rx hs pl pu ⟨_, _, rfl, h1, fun z => ?_, fun _ p o ho n => ?_⟩
    · rw [q1.len] at z
      rw [cut_whole z.1 z.2] at k
      exact same_end sb r1 k
    · obtain ⟨n0, rr⟩ := new_tup (K := X.K) (A := A) sb n ho (cutV_reps q1 lo hi)
      exact k _ _ _ n0 (RepR.of rr)
  · cases r1
    rename_i l
    split at e
    · rename_i q
      cases e
      refine sl_str pins s σ H _ v vl vu lo hi sl Q I rx hs pl pu ⟨_, rfl, by rw [S_len]; exact szK q, ?_⟩
      have : cutS (S l) lo hi = S (cut l lo hi) := by
        unfold cutS cut
        rw [S_toList, S_len]; rfl
      rw [this]
      exact same_end sb (.str _) k
    · cases e
  · cases e
theorem slice_use {ma : Ev} {ml mh : Option Ev} (h : liftE K A (eSlice ma ml mh) σ H Q) : tSl (rSlD K A) (liftE K A ma) (liftO K A ml) (liftO K A mh) σ H Q := by
  obtain ⟨G, ρ, r, ρ', s, e, k⟩ := h
  obtain ⟨⟨d1, ρ1⟩, e1, e⟩ := bind_ok e
  obtain ⟨⟨l, ρ2⟩, e2, e⟩ := bind_ok e
  obtain ⟨⟨h, ρ3⟩, e3, e⟩ := bind_ok e
  obtain ⟨r', e4, e⟩ := bind_ok e
  cases e
  refine use_val s e1 fun x G1 H1 n1 r1 => ⟨G1, ρ1, l, ρ2, n1.st, e2, fun G2 H2 n2 => ⟨G2, ρ2, h, _, n2.st, e3, fun G3 H3 n3 => ?_⟩⟩
  exact ⟨G3, d1, r, n3.st.sub, (r1.mono n2.gs).mono n3.gs, e4, end_of ((n1.trans n2).trans n3) k⟩
theorem pd_slice {X : Cx} {a : Expr} {lo hi : Option Expr} {ma : Ev} {ml mh : Option Ev} {p2 pos : Pos} (ha : PD A X a ma) (hl : PDO A X lo ml) (hh : PDO A X hi mh) : PD A X (.Subscript a (.Slice lo hi none p2) pos) (eSlice ma ml mh) := PE.imp (pe_slice o_slice ha hl hh) fun _ _ _ => slice_use
end
/-! ### types -/
/-- what the written part shows of the classes -/
structure KD (K : PySem.W.Frag) (A : CT) : Prop where
  cf : ∀ c ∈ A.cs, SL.CF K (A.ad c)
  cc : ∀ c ∈ A.cs, ∀ c' ∈ A.cs, PySem.W.kitOne K (.ref (A.ad c)) (.ref (A.ad c')) = some (decide (c = c'))
  nn : ∀ c ∈ A.cs, ∀ c' ∈ A.cs, PySem.W.notFirst K (A.ad c) (.ref (A.ad c')) = true
def tyD (A : CT) : D → Option Value
  | .non => some (.type "NoneType")
  | .bl _ => some (.type "bool")
  | .int _ => some (.type "int")
  | .str _ => some (.type "str")
  | .tup _ => some (.type "tuple")
  | .lst _ => some (.type "list")
  | .dic _ => some (.type "dict")
  | .ins c _ => some (.ref (A.ad c))
  | _ => none
theorem rep_ty {K : PySem.W.Frag} {A : CT} {G H : Hp} {x : V} {d : D} {t : Value} (kd : KD K A) (sb : Sub G H) (r : Rep K A G x d) (e : tyD A d = some t) : TyX K H x t := by
  cases r with
  | non => cases e; exact .base .non
  | bl b => cases e; exact .base (.bl b)
  | int i => cases e; exact .base (.int i)
  | str l => cases e; exact .base (.str _)
  | lst h q => cases e; exact .base (.lst (sb.lst h))
  | tup n h q => cases e; exact .fTuple (sb.frt h)
  | emp a b c d => cases e; exact .kTuple a b
  | dic h q =>
    cases e
    rcases sb.dK h with h | ⟨o, h⟩
    · exact .base (.dK h)
    · exact .fDict h
  | ins h l c q => cases e; exact .base (.ins (sb.ins h) (kd.cf _ c).cl (kd.cf _ c).ha (kd.cf _ c).hn (kd.cf _ c).ht (kd.cf _ c).hm)
  | _ => cases e
theorem kit_D {K : PySem.W.Frag} {A : CT} {G : Hp} {x : V} {d : D} {t : BT} {b : Bool} (kd : KD K A) (r : Rep K A G x d) (e : isB1 t d = some b) : ∃ u, tyD A d = some u ∧ PySem.W.kitOne K u (.type t.nm) = some b := by
  cases r with
  | ins h l c q =>
    refine ⟨_, rfl, ?_⟩
    have kb := (kd.cf _ c).kb
    cases t <;> first | (cases e; done) | (cases e; exact kb _ (by simp [BT.nm]))
  | _ =>
    cases t <;> first | (cases e; done) | (cases e; exact ⟨_, rfl, kit_ty (by decide +kernel)⟩)
section
variable {X : Cx} {A : CT}
theorem o_isi (kd : KD X.K A) : CallR X (.builtin "isinstance") (rDn X.K A isiD) := by
  intro pins s σ H xs us Q I r h
  obtain ⟨G, ds, r0, sb, rs, e, k⟩ := h
  unfold isiD at e
  split at e
  · rename_i x t
    obtain ⟨v1, v2, rfl, r1, r2⟩ := rs.inv2
    cases r2
    split at e
    · rename_i b hb
      cases e
      obtain ⟨u, h1, h2⟩ := kit_D kd r1 hb
      exact call_isi pins s σ H _ us Q I r ⟨_, _, _, _, _, rfl, .ty _, rep_ty kd sb r1 h1, h2, same_end sb (.bl _) k⟩
    · cases e
  · rename_i c0 f0 c1
    obtain ⟨v1, v2, rfl, r1, r2⟩ := rs.inv2
    cases r2 with | cls _ hc' =>
    cases e
    have hc : c0 ∈ A.cs := by cases r1 with | ins h l c q => exact c
    exact call_isi pins s σ H _ us Q I r ⟨_, _, _, _, _, rfl, .own _, rep_ty kd sb r1 rfl, kd.cc _ hc _ hc', same_end sb (.bl _) k⟩
  · cases e
  · cases e
  · cases e
  · cases e
  · cases e
  · cases e
  · cases e
  · rename_i x c n1 n2 n3 n6 n4 n5 n7 n8
    obtain ⟨v1, v2, rfl, r1, r2⟩ := rs.inv2
    cases r2 with | cls _ hc' =>
    cases e
    have kt := (kd.cf _ hc').kt
    have fin : ∀ T, tyD A x = some (.type T) → T ∈ (["NoneType", "bool", "int", "str", "list", "tuple", "dict"] : List String) → wpAny (model X.prog X.w) X.A (call (.builtin "isinstance") us) (EP X pins σ Q) X.xe s := fun T h1 h2 =>
      call_isi pins s σ H _ us Q I r ⟨_, _, _, _, _, rfl, .own _, rep_ty kd sb r1 h1, kt T h2, same_end sb (.bl _) k⟩
    cases x with
    | non => exact fin _ rfl (by simp)
    | bl _ => exact fin _ rfl (by simp)
    | int _ => exact fin _ rfl (by simp)
    | str _ => exact fin _ rfl (by simp)
    | tup _ => exact fin _ rfl (by simp)
    | lst _ => exact fin _ rfl (by simp)
    | dic _ => exact fin _ rfl (by simp)
    | ins c' f => exact absurd rfl (n1 c' f)
    | fls l => exact absurd rfl (n2 l)
    | dct l => exact absurd rfl (n3 l)
    | kt l => exact absurd rfl (n6 l)
    | ty l => exact absurd rfl (n4 l)
    | cls l => exact absurd rfl (n5 l)
    | any => exact absurd rfl n7
    | err c' f => exact absurd rfl (n8 c' f)
  · cases e
/-! len -/
theorem o_noN {f : Value} : CallR X f (rDb1 X.K A no1) := by
  intro pins s σ H xs us Q I r h
  obtain ⟨G, x, d1, d, rfl, sb, r1, e, k⟩ := h
  cases e
theorem call_lenD {kvs0 : True} : CallR X (.builtin "len") (fun xs H Q => ∃ a kvs, xs = [.ref a] ∧ Rd H a (.dK kvs) ∧ Q (.int kvs.length) H) := by
  intro pins s σ H xs us Q I r h
  obtain ⟨a, kvs, rfl, e, q⟩ := h
  obtain rfl := Vals.ref1 r
  exact d_len I e fun t s' I' => ⟨.int _, H, I', ⟨t, rfl⟩, q⟩
theorem o_lenb {own : D → R Rv} (ho : CallR X (.builtin "len") (rDb1 X.K A own)) : CallR X (.builtin "len") (rDb1 X.K A (lenB own)) := by
  intro pins s σ H xs us Q I r h
  obtain ⟨G, x, d1, d, rfl, sb, r1, e, k⟩ := h
  unfold lenB at e
  split at e
  · obtain rfl := r1.str
    split at e
    · rename_i q
      cases e
      refine call_len pins s σ H _ us Q I r ⟨_, _, rfl, ⟨by rw [S_len]; exact szK q, rfl⟩, ?_⟩
      rw [S_len]; exact k _ (.int _)
    · cases e
  · obtain ⟨p, vs, rfl, h1, q1⟩ := r1.lst sb
    cases e
    exact call_len pins s σ H _ us Q I r ⟨_, _, rfl, .inl ⟨vs, SqL.of h1, rfl⟩, by rw [q1.len]; exact k _ (.int _)⟩
  · obtain ⟨p, vs, rfl, h1, q1⟩ := r1.fls sb
    cases e
    exact call_len pins s σ H _ us Q I r ⟨_, _, rfl, .inl ⟨vs, h1, rfl⟩, by rw [q1.len]; exact k _ (.int _)⟩
  · obtain ⟨p, vs, rfl, h1, q1⟩ := r1.tup sb
    cases e
    exact call_len pins s σ H _ us Q I r ⟨_, _, rfl, .inr ⟨vs, h1, rfl⟩, by rw [q1.len]; exact k _ (.int _)⟩
  · obtain ⟨p, kvs, rfl, h1, q1⟩ := r1.dic sb
    cases e
    exact call_lenD (kvs0 := trivial) pins s σ H _ us Q I r ⟨p, kvs, rfl, h1, by rw [q1.len]; exact k _ (.int _)⟩
  · exact ho pins s σ H _ us Q I r ⟨G, x, d1, d, rfl, sb, r1, e, k⟩
theorem nf_len {own : D → R Rv} (nf : ∀ x r, own x = .ok r → r.2 = false) (x : D) (r : Rv) (e : lenB own x = .ok r) : r.2 = false := by
  unfold lenB at e
  split at e
  · split at e
    · cases e; rfl
    · cases e
  all_goals first | (cases e; rfl) | exact nf _ _ e
theorem nf_no1 (x : D) (r : Rv) (e : no1 x = .ok r) : r.2 = false := by cases e
/-! numbers -/
theorem o_abs : CallR X (.builtin "abs") (rDn X.K A absD) := by
  intro pins s σ H xs us Q I r h
  obtain ⟨G, ds, r0, sb, rs, e, k⟩ := h
  unfold absD at e
  split at e
  · obtain ⟨v1, rfl, r1⟩ := rs.inv1
    cases r1; cases e
    exact call_abs pins s σ H _ us Q I r ⟨_, rfl, same_end sb (.int _) k⟩
  · cases e
theorem o_max (hc : X.calm = true) : CallR X (.builtin "max") (rDn X.K A maxD) := by
  intro pins s σ H xs us Q I r h
  obtain ⟨G, ds, r0, sb, rs, e, k⟩ := h
  unfold maxD at e
  split at e
  · obtain ⟨v1, v2, rfl, r1, r2⟩ := rs.inv2
    cases r1; cases r2; cases e
    exact call_max2 hc pins s σ H _ us Q I r ⟨_, _, rfl, same_end sb (.int _) k⟩
  · cases e
theorem o_min (hc : X.calm = true) : CallR X (.builtin "min") (rDn X.K A minD) := by
  intro pins s σ H xs us Q I r h
  obtain ⟨G, ds, r0, sb, rs, e, k⟩ := h
  unfold minD at e
  split at e
  · obtain ⟨v1, v2, rfl, r1, r2⟩ := rs.inv2
    cases r1; cases r2; cases e
    exact call_min2 hc pins s σ H _ us Q I r ⟨_, _, rfl, same_end sb (.int _) k⟩
  · cases e
theorem o_int : CallR X (.type "int") (rDn X.K A intD) := by
  intro pins s σ H xs us Q I r h
  obtain ⟨G, ds, r0, sb, rs, e, k⟩ := h
  unfold intD at e
  split at e
  · obtain ⟨v1, rfl, r1⟩ := rs.inv1
    cases r1; cases e
    exact call_int1 pins s σ H _ us Q I r (.inl ⟨_, rfl, same_end sb (.int _) k⟩)
  · obtain ⟨v1, rfl, r1⟩ := rs.inv1
    cases r1; cases e
    exact call_int1 pins s σ H _ us Q I r (.inr ⟨_, rfl, same_end sb (.int _) k⟩)
  · cases e
/-! lists of one kind -/
theorem bools_rep {K : PySem.W.Frag} {G : Hp} {vs : List V} {ds : List D} {bs : List Bool} (r : Reps K A G vs ds) (e : boolsOf ds = .ok bs) : vs = bs.map V.bl := by
  induction ds generalizing vs bs with
  | nil => cases r; cases e; rfl
  | cons d ds ih =>
    cases r with | cons a b =>
    unfold boolsOf at e
    split at e
    · rename_i h; cases h
    · rename_i h; cases h
      obtain ⟨bs', e1, e⟩ := bind_ok e
      cases e
      cases a
      rw [ih b e1]; rfl
    · cases e
theorem strs_rep {K : PySem.W.Frag} {G : Hp} {vs : List V} {ds : List D} {bs : List (List Nat)} (r : Reps K A G vs ds) (e : strsOf ds = .ok bs) : vs = (bs.map S).map V.str := by
  induction ds generalizing vs bs with
  | nil => cases r; cases e; rfl
  | cons d ds ih =>
    cases r with | cons a b =>
    unfold strsOf at e
    split at e
    · rename_i h; cases h
    · rename_i h; cases h
      obtain ⟨bs', e1, e⟩ := bind_ok e
      cases e
      cases a
      rw [ih b e1]; rfl
    · cases e
theorem o_all (hc : X.calm = true) : CallR X (.builtin "all") (rDn X.K A allD) := by
  intro pins s σ H xs us Q I r h
  obtain ⟨G, ds, r0, sb, rs, e, k⟩ := h
  unfold allD at e
  split at e
  · obtain ⟨v1, rfl, r1⟩ := rs.inv1
    cases r1 with | lst h1 q1 =>
    obtain ⟨bs, e1, e⟩ := bind_ok e
    cases e
    have := bools_rep q1 e1
    subst this
    exact cr_all hc pins s σ H _ us Q I r ⟨_, _, rfl, SqL.of (sb.lst h1), same_end sb (.bl _) k⟩
  · cases e
/-! sorted -/
end
end DY

set_option Elab.async false
set_option linter.all false
set_option maxRecDepth 100000
set_option maxHeartbeats 4000000
namespace DY
open PySem L2 PySem.Spec PyProof.Rows
variable [Tb]
section
variable {X : Cx} {A : CT}
/-! ### tuple, list, dict -/
theorem new_dic {K : PySem.W.Frag} {G H : Hp} {p : Addr} {kvs : List (Key × V)} {ds : List (Ky × D)} (s : Sub G H) (n : H p = none) (r : RepK K A G kvs ds) : Nx0 G H G (upd H p (.dK kvs)) ∧ RepN K A H G (upd H p (.dK kvs)) (.ref p) (.dic ds, true) :=
  ⟨(upd_nx0 s n).1, RepR.new (upd_nx0 (o := .dK kvs) s n).2 ⟨kvs, upd_same, r⟩ id n⟩
/-! ### str -/
end
end DY

set_option Elab.async false
set_option linter.all false
set_option maxRecDepth 100000
set_option maxHeartbeats 4000000
/-! ### rules for statements -/
namespace DY
open PySem L2 PySem.Spec PyProof.Rows
variable [Tb]
/-- a def's entry: what is shared, the heap, the lent object -/
structure Bs where
  G : Hp
  H : Hp
  O : Option Addr
structure StF (K : PySem.W.Frag) (A : CT) (j : Option Nat) (B : Bs) (σ : L2.St) (G H : Hp) (ρ : Env) : Prop where
  st : St K A σ G H ρ
  ext : Ext (fun p => B.O = some p) B.G B.H G H
  own : ∀ i p, Own σ ρ i p → (j = some i → B.O = some p) ∧ (j ≠ some i → B.H p = none)
section
variable {K : PySem.W.Frag} {A : CT} {j : Option Nat} {B : Bs} {G G' G1 H H' H1 : Hp} {σ σ' : L2.St} {ρ ρ1 ρ2 ρ' : Env} {D : Ends}
theorem StF.step (s : StF K A j B σ G H ρ) (n : Nx K A σ G H ρ G' H' ρ') : StF K A j B σ G' H' ρ' := by
  refine ⟨n.st, s.ext.trans n.ext fun p ⟨i, z⟩ => ?_, fun i p z => s.own i p (n.own i p z)⟩
  by_cases e : j = some i
  · exact .inl ((s.own i p z).1 e)
  · exact .inr ((s.own i p z).2 e)
/-- what is new here is new since the entry -/
theorem StF.fresh (s : StF K A j B σ G H ρ) {p : Addr} (h : H p = none) : B.H p = none := by
  cases q : B.H p with
  | none => rfl
  | some o => exact absurd h (s.ext.there p (by rw [q]; exact fun x => nomatch x))
variable (K A j B D) in
def SOut (o : Out) (ρ' : Env) : Prop :=
  match o with
  | .nx => ∀ σ' G' H', StF K A j B σ' G' H' ρ' → D.nx σ' H'
  | .bk => ∀ σ' G' H', StF K A j B σ' G' H' ρ' → D.bk σ' H'
  | .ct => ∀ σ' G' H', StF K A j B σ' G' H' ρ' → D.ct σ' H'
  | .rt r => ∀ v σ' G' H', StF K A j B σ' G' H' ρ' → RepR K A (OwnS σ' ρ') B.H G' H' v r → D.rt v H'
variable (K A j) in
def liftS (m : Sv) : TS := fun D σ H => ∃ B G ρ o ρ', StF K A j B σ G H ρ ∧ m ρ = .ok (o, ρ') ∧ SOut K A j B D o ρ'
end
abbrev PDS (A : CT) (j : Option Nat) (X : Cx) (s : Stmt) (m : Sv) : Prop := PS X s (liftS X.K A j m)
abbrev PDSs (A : CT) (j : Option Nat) (X : Cx) (s : List Stmt) (m : Sv) : Prop := PSs X s (liftS X.K A j m)
section
variable {X : Cx} {A : CT} {j : Option Nat} {st : Stmt} {rest : List Stmt} {m m' : Sv} {e a b c : Expr} {me ma mb mc : Ev} {pos pos' : Pos}
theorem pdss_nil : PDSs A j X [] sNext := PSs.imp pss_nil fun D σ H h => by
  obtain ⟨B, G, ρ, o, ρ', s, e, k⟩ := h
  cases e
  exact k σ G H s
theorem pdss_one (h : PDS A j X st m) : PDSs A j X [st] m := pss_one h
theorem pdss_cons (h1 : PDS A j X st m) (h2 : PDSs A j X rest m') : PDSs A j X (st :: rest) (sSeq m m') := PSs.imp (pss_cons h1 h2) fun D σ H h => by
  obtain ⟨B, G, ρ, o, ρ', s, e, k⟩ := h
  obtain ⟨⟨o1, ρ1⟩, e1, e⟩ := bind_ok e
  refine ⟨B, G, ρ, o1, ρ1, s, e1, ?_⟩
  cases o1 with
  | nx => exact fun σ' G' H' s' => ⟨B, G', ρ1, o, ρ', s', e, k⟩
  | bk => cases e; exact k
  | ct => cases e; exact k
  | rt r => cases e; exact k
theorem pds_no : PDS A j X st sNo := PS.imp ps_never fun D σ H h => by
  obtain ⟨B, G, ρ, o, ρ', s, e, k⟩ := h
  cases e
theorem pds_expr (he : PD A X e me) (hs : swapsWith e none pos.line X.env = pure false := by rfl) : PDS A j X (.Expr e pos) (sExpr me) := PS.imp (ps_expr he hs) fun D σ H h => by
  obtain ⟨B, G, ρ, o, ρ', s, e, k⟩ := h
  obtain ⟨⟨x, ρ1⟩, e1, e⟩ := bind_ok e
  cases e
  exact use_val s.st e1 fun v G1 H1 n r => k σ G1 H1 (s.step n)
theorem pds_ret (he : PD A X e me) : PDS A j X (.Return (some e) pos) (sRet me) := PS.imp (ps_ret he) fun D σ H h => by
  obtain ⟨B, G, ρ, o, ρ', s, e, k⟩ := h
  obtain ⟨⟨r, ρ1⟩, e1, e⟩ := bind_ok e
  cases e
  refine ⟨G, ρ, r, _, s.st, e1, fun v G1 H1 n h => k v σ G1 H1 (s.step n) ?_⟩
  unfold RepR at *
  split at h
  · rename_i q
    rw [if_pos q]
    obtain ⟨p, e, h1, h2, h3, h4⟩ := h
    exact ⟨p, e, h1, h2, h3, s.fresh h4⟩
  · rename_i q
    rw [if_neg q]; exact h
/-- return x -/
theorem pds_retV {i : Nat} {x : Str} (h : PE X (.Name x pos') (tVar i)) (hj : j ≠ some i) : PDS A j X (.Return (some (.Name x pos')) pos) (sRetV i) := PS.imp (ps_ret h) fun D σ H h => by
  obtain ⟨B, G, ρ, o, ρ', s, e, k⟩ := h
  obtain ⟨⟨r, ρ1⟩, e1, e⟩ := bind_ok e
  cases e
  unfold eMove at e1
  split at e1
  · rename_i d hd
    cases e1
    obtain ⟨v, e2, rv⟩ := s.st.slot i _ hd
    exact ⟨v, getD_some e2, k v σ G H s (RepR.of rv)⟩
  · rename_i d hd
    cases e1
    obtain ⟨p, e2, n, z⟩ := s.st.slot i _ hd
    have e3 := getD_some e2
    have no : ¬ OwnS σ (ρ.set i .un) p := fun ⟨i', z⟩ => by
      have := own_set (s := .un) (fun _ z => nomatch z) z
      exact this.2 (s.st.dist i' i p this.1 ⟨⟨d, hd⟩, e3⟩)
    refine ⟨.ref p, e3, k _ σ G H ⟨s.st.put (fun _ z => nomatch z) trivial, s.ext, fun i' p' z => s.own i' p' (own_set (s := .un) (fun _ z => nomatch z) z).1⟩ (RepR.new n z no ?_)⟩
    exact (s.own i p ⟨⟨d, hd⟩, e3⟩).2 hj
  · cases e1
theorem pds_if {sa sb : List Stmt} (hc : PDT A X c mc) (ha : PDSs A j X sa m) (hb : PDSs A j X sb m') : PDS A j X (.If c sa sb pos) (sIf mc m m') := PS.imp (ps_if hc ha hb) fun D σ H h => by
  obtain ⟨B, G, ρ, o, ρ', s, e, k⟩ := h
  obtain ⟨⟨x, ρ1⟩, e1, e⟩ := bind_ok e
  obtain ⟨c, e2, e⟩ := bind_ok e
  cases isB_ok e2
  refine ⟨G, ρ, c, ρ1, s.st, e1, fun G1 H1 n => ?_⟩
  cases c with
  | true => exact iteT ⟨B, G1, ρ1, o, ρ', s.step n, e, k⟩
  | false => exact iteF ⟨B, G1, ρ1, o, ρ', s.step n, e, k⟩
end
/-! ### names that are stored -/
section
variable {K : PySem.W.Frag} {A : CT} {j : Option Nat} {B : Bs} {G G' G1 H H' H1 : Hp} {σ σ' : L2.St} {ρ ρ1 ρ2 ρ' : Env} {D : Ends}
theorem own_setσ {i k : Nat} {p : Addr} {v : V} {s : Slot} (h : Own (σ.set i (some v)) (ρ.set i s) k p) : (k ≠ i ∧ Own σ ρ k p) ∨ (k = i ∧ v = .ref p ∧ ∃ d, s = .ow d) := by
  obtain ⟨⟨d, h1⟩, h2⟩ := h
  by_cases e : i = k
  · subst e
    rw [List.getElem?_set_self'] at h1 h2
    refine .inr ⟨rfl, ?_⟩
    cases q : ρ[i]? with
    | none => rw [q] at h1; cases h1
    | some x =>
      rw [q] at h1
      cases q2 : σ[i]? with
      | none => rw [q2] at h2; cases h2
      | some y =>
        rw [q2] at h2
        exact ⟨Option.some.inj (Option.some.inj h2), d, Option.some.inj h1⟩
  · rw [List.getElem?_set_ne e] at h1 h2
    exact .inl ⟨fun z => e z.symm, ⟨d, h1⟩, h2⟩
/-- slot i holds a value that stays -/
theorem St.store {i : Nat} {v : V} {d : DY.D} (s : St K A σ G H ρ) (r : Rep K A G v d) : St K A (σ.set i (some v)) G H (ρ.set i (.sh d)) ∧ ∀ k p, Own (σ.set i (some v)) (ρ.set i (.sh d)) k p → Own σ ρ k p ∧ k ≠ i := by
  have ow : ∀ k p, Own (σ.set i (some v)) (ρ.set i (.sh d)) k p → Own σ ρ k p ∧ k ≠ i := fun k p z => by
    rcases own_setσ z with z | ⟨_, _, d', z⟩
    · exact ⟨z.2, z.1⟩
    · cases z
  refine ⟨⟨s.sub, by rw [List.length_set, List.length_set]; exact s.len, fun k z hz => ?_, fun a b p ha hb => s.dist a b p (ow a p ha).1 (ow b p hb).1⟩, ow⟩
  by_cases e : i = k
  · subst e
    rw [List.getElem?_set_self'] at hz
    cases q : ρ[i]? with
    | none => rw [q] at hz; cases hz
    | some x =>
      rw [q] at hz
      cases (Option.some.inj hz)
      refine ⟨v, getD_of ?_, r⟩
      have : i < σ.length := by rw [s.len]; exact (List.getElem?_eq_some_iff.mp q).1
      rw [List.getElem?_set_self this]
  · rw [List.getElem?_set_ne e] at hz
    have := s.slot k z hz
    rw [List.getD_eq_getElem?_getD, List.getElem?_set_ne e, ← List.getD_eq_getElem?_getD]
    exact this
/-- slot i holds a new object of its own -/
theorem St.storeO {i : Nat} {p : Addr} {d : DY.D} (s : St K A σ G H ρ) (n : G p = none) (h : Has K A G H p d) (no : ¬ OwnS σ ρ p) : St K A (σ.set i (some (.ref p))) G H (ρ.set i (.ow d)) ∧ ∀ k q, Own (σ.set i (some (.ref p))) (ρ.set i (.ow d)) k q → (Own σ ρ k q ∧ k ≠ i) ∨ (k = i ∧ q = p) := by
  have ow : ∀ k q, Own (σ.set i (some (.ref p))) (ρ.set i (.ow d)) k q → (Own σ ρ k q ∧ k ≠ i) ∨ (k = i ∧ q = p) := fun k q z => by
    rcases own_setσ z with z | ⟨e, e2, d', z⟩
    · exact .inl ⟨z.2, z.1⟩
    · cases e2; exact .inr ⟨e, rfl⟩
  refine ⟨⟨s.sub, by rw [List.length_set, List.length_set]; exact s.len, fun k z hz => ?_, fun a b q ha hb => ?_⟩, ow⟩
  · by_cases e : i = k
    · subst e
      rw [List.getElem?_set_self'] at hz
      cases q : ρ[i]? with
      | none => rw [q] at hz; cases hz
      | some x =>
        rw [q] at hz
        cases (Option.some.inj hz)
        refine ⟨p, getD_of ?_, n, h⟩
        have : i < σ.length := by rw [s.len]; exact (List.getElem?_eq_some_iff.mp q).1
        rw [List.getElem?_set_self this]
    · rw [List.getElem?_set_ne e] at hz
      have := s.slot k z hz
      rw [List.getD_eq_getElem?_getD, List.getElem?_set_ne e, ← List.getD_eq_getElem?_getD]
      exact this
  · rcases ow a q ha with ⟨x, xe⟩ | ⟨x, x'⟩
    · rcases ow b q hb with ⟨y, ye⟩ | ⟨y, y'⟩
      · exact s.dist a b q x y
      · exact absurd ⟨a, y' ▸ x⟩ no
    · rcases ow b q hb with ⟨y, ye⟩ | ⟨y, y'⟩
      · exact absurd ⟨b, x' ▸ y⟩ no
      · rw [x, y]
theorem StF.store {i : Nat} {v : V} {d : DY.D} (s : StF K A j B σ G H ρ) (r : Rep K A G v d) : StF K A j B (σ.set i (some v)) G H (ρ.set i (.sh d)) :=
  ⟨(s.st.store r).1, s.ext, fun k p z => s.own k p ((s.st.store r).2 k p z).1⟩
/-- the value of an evaluation is stored, w: as an own object if it is new -/
theorem StF.keep {w : Bool} {i : Nat} {v : V} {r : Rv} (s : StF K A j B σ G H ρ) (n : Nx K A σ G H ρ G' H' ρ') (h : RepR K A (OwnS σ ρ') H G' H' v r) (hw : w = true → j ≠ some i) : ∃ G2, L2.Same G' G2 ∧ StF K A j B (σ.set i (some v)) G2 H' (ρ'.set i (DY.keep w r)) := by
  obtain ⟨d, b⟩ := r
  have s' := s.step n
  cases b with
  | false => exact ⟨G', fun _ _ z => z, by
      have : DY.keep w (d, false) = .sh d := rfl
      rw [this]; exact s'.store h⟩
  | true =>
    cases w with
    | false =>
      obtain ⟨G2, n2, r2, g⟩ := n.frz h
      exact ⟨G2, g, (s.step n2).store r2⟩
    | true =>
      obtain ⟨p, rfl, h1, h2, h3, h4⟩ := h
      refine ⟨G', fun _ _ z => z, (s'.st.storeO h1 h2 h3).1, s'.ext, fun k q z => ?_⟩
      rcases (s'.st.storeO h1 h2 h3).2 k q z with ⟨z, _⟩ | ⟨rfl, rfl⟩
      · exact s'.own k q z
      · exact ⟨fun e => absurd e (hw rfl), fun _ => s.fresh h4⟩
end
section
variable {K : PySem.W.Frag} {A : CT} {j : Option Nat} {B : Bs} {G G' G1 G2 H H' H1 H2 : Hp} {σ σ' : L2.St} {ρ ρ1 ρ2 ρ' : Env} {D : Ends}
theorem RepR.base {v : V} {r : Rv} {O : Addr → Prop} (s : StF K A j B σ G H ρ) (h : RepR K A O H G' H' v r) : RepR K A O B.H G' H' v r := by
  unfold RepR at *
  split at h
  · rename_i q
    rw [if_pos q]
    obtain ⟨p, e, h1, h2, h3, h4⟩ := h
    exact ⟨p, e, h1, h2, h3, s.fresh h4⟩
  · rename_i q
    rw [if_neg q]; exact h
/-- a new thing that waits while something else is evaluated -/
theorem RepR.nx {v : V} {r : Rv} {H0 : Hp} (h : RepR K A (OwnS σ ρ1) H0 G1 H1 v r) (n : Nx K A σ G1 H1 ρ1 G2 H2 ρ2) : RepR K A (OwnS σ ρ2) H0 G2 H2 v r := by
  unfold RepR at *
  split at h
  · rename_i q
    rw [if_pos q]
    obtain ⟨p, e, h1, h2, h3, h4⟩ := h
    refine ⟨p, e, ?_, h2.mono n.gs fun o z nt => n.ext.hs p o z h3 nt, fun ⟨i, z⟩ => h3 ⟨i, n.own i p z⟩, h4⟩
    cases z : G2 p with
    | none => rfl
    | some u =>
      rcases n.ext.fr p (by rw [z]; exact fun x => nomatch x) with z | z | z
      · exact absurd h1 z
      · obtain ⟨o, ho⟩ := h2.ex; rw [ho] at z; cases z
      · exact absurd z h3
  · rename_i q
    rw [if_neg q]; exact h.mono n.gs
theorem StF.keep0 {w : Bool} {i : Nat} {v : V} {r : Rv} (s : StF K A j B σ G H ρ) (h : RepR K A (OwnS σ ρ) B.H G H v r) (hw : w = true → j ≠ some i) : ∃ G2, StF K A j B (σ.set i (some v)) G2 H (ρ.set i (DY.keep w r)) ∧ L2.Same G G2 ∧ (∀ p, (r.2 = true → v ≠ .ref p) → G p = none → G2 p = none) ∧ ∀ k p, Own (σ.set i (some v)) (ρ.set i (DY.keep w r)) k p → Own σ ρ k p ∨ (r.2 = true ∧ v = .ref p) := by
  obtain ⟨d, b⟩ := r
  cases b with
  | false => exact ⟨G, s.store h, fun _ _ z => z, fun _ _ z => z, fun k p z => .inl ((s.st.store h).2 k p z).1⟩
  | true =>
    obtain ⟨p, rfl, h1, h2, h3, h4⟩ := h
    cases w with
    | false =>
      obtain ⟨o, ho, s1, r1, g⟩ := s.st.freeze h1 h2 h3
      have s2 : StF K A j B σ (upd G p o) H ρ := ⟨s1, ⟨fun q u z => g q u (s.ext.gs q u z), fun q hq => by
        by_cases z : q = p
        · subst z; exact .inr (.inl h4)
        · rw [upd_ne z] at hq; exact s.ext.fr q hq, s.ext.hs, s.ext.there⟩, s.own⟩
      exact ⟨_, s2.store r1, g, fun q hq z => by rw [upd_ne fun e => hq rfl (by rw [e])]; exact z, fun k q z => .inl ((s2.st.store r1).2 k q z).1⟩
    | true =>
      have so := s.st.storeO (i := i) h1 h2 h3
      refine ⟨G, ⟨so.1, s.ext, fun k q z => ?_⟩, fun _ _ z => z, fun _ _ z => z, fun k q z => ?_⟩
      · rcases so.2 k q z with ⟨z, _⟩ | ⟨rfl, rfl⟩
        · exact s.own k q z
        · exact ⟨fun e => absurd e (hw rfl), fun _ => h4⟩
      · rcases so.2 k q z with ⟨z, _⟩ | ⟨rfl, rfl⟩
        · exact .inl z
        · exact .inr ⟨rfl, rfl⟩
theorem StF.keep2 {w : Bool} {i k : Nat} {v v2 : V} {r q : Rv} (s : StF K A j B σ G H ρ) (h : RepR K A (OwnS σ ρ) B.H G H v r) (h' : RepR K A (OwnS σ ρ) B.H G H v2 q) (hd : r.2 = true → q.2 = true → v ≠ v2) (hik : i ≠ k) (hw : w = true → j ≠ some i ∧ j ≠ some k) :
    ∃ G2, StF K A j B ((σ.set i (some v)).set k (some v2)) G2 H ((ρ.set i (DY.keep w r)).set k (DY.keep w q)) := by
  obtain ⟨G1, s1, g1, f1, o1⟩ := s.keep0 (w := w) (i := i) h fun z => (hw z).1
  have h2 : RepR K A (OwnS (σ.set i (some v)) (ρ.set i (DY.keep w r))) B.H G1 H v2 q := by
    unfold RepR at h'
    split at h'
    · rename_i qf
      obtain ⟨p2, rfl, a1, a2, a3, a4⟩ := h'
      have ne : r.2 = true → v ≠ .ref p2 := fun rf => hd rf qf
      unfold RepR
      rw [if_pos qf]
      refine ⟨p2, rfl, f1 p2 ne a1, a2.mono g1 fun _ z _ => z, fun ⟨k', z⟩ => ?_, a4⟩
      rcases o1 k' p2 z with z | z
      · exact a3 ⟨k', z⟩
      · exact ne z.1 z.2
    · rename_i qf
      unfold RepR
      rw [if_neg qf]; exact h'.mono g1
  obtain ⟨G2, s2, _⟩ := s1.keep0 (w := w) (i := k) h2 fun z => (hw z).2
  exact ⟨G2, s2⟩
end
section
variable {X : Cx} {A : CT} {j : Option Nat} {e a b : Expr} {me ma mb : Ev} {pos pos' : Pos}
theorem set_use {K : PySem.W.Frag} {w : Bool} {i : Nat} {D : Ends} {σ : L2.St} {H : Hp} (hw : w = true → j ≠ some i) (h : liftS K A j (sAsg w i me) D σ H) : tAsg (liftE K A me) (gName i) D σ H := by
  obtain ⟨B, G, ρ, o, ρ', s, e, k⟩ := h
  obtain ⟨⟨r, ρ1⟩, e1, e⟩ := bind_ok e
  cases e
  refine ⟨G, ρ, r, ρ1, s.st, e1, fun v G1 H1 n h => ?_⟩
  obtain ⟨G2, _, s2⟩ := s.keep (w := w) (i := i) n h hw
  exact k _ G2 H1 s2
theorem pds_set {w : Bool} {i : Nat} {x : Str} (hN : X.N.Nodup) (hi : X.N[i]? = some x) (hx : Loc X.env.scope x) (he : PD A X e me) (hw : w = true → j ≠ some i) (hs : swapsWith e (some (.Name x pos')) pos.line X.env = pure false := by rfl) (hf : X.fn x = true ∨ X.env.scope.names.lookup x = some .local := by first | exact .inl rfl | exact .inr rfl | assumption) :
    PDS A j X (.Assign [.Name x pos'] e pos) (sAsg w i me) := PS.imp (ps_set hN hi hx he hs hf) fun D σ H => set_use hw
theorem pds_par {w : Bool} {i k : Nat} {x y : Str} {px py pt : Pos} {kt k2 pt2} (hc : X.calm = true) (hN : X.N.Nodup) (hi : X.N[i]? = some x) (hk : X.N[k]? = some y) (hik : i ≠ k)
    (hx : X.env.scope.names.lookup x = some .local) (hy : X.env.scope.names.lookup y = some .local) (ha : PD A X a ma) (hb : PD A X b mb) (hw : w = true → j ≠ some i ∧ j ≠ some k)
    (hsw : swappedStores [.Tuple [.Name x px, .Name y py] kt pt] (.Tuple [a, b] k2 pt2) X.env = pure (some [x, y]))
    (hs : swapsWithSole [.Tuple [.Name x px, .Name y py] kt pt] (.Tuple [a, b] k2 pt2) pos.line X.env = pure false := by rfl)
    (h1 : starEach [a, b] X.env = (false, eval a X.env) :: starEach [b] X.env := by rfl) (h2 : starEach [b] X.env = (false, eval b X.env) :: starEach [] X.env := by rfl) :
    PDS A j X (.Assign [.Tuple [.Name x px, .Name y py] kt pt] (.Tuple [a, b] k2 pt2) pos) (sPar w i k ma mb) := PS.imp (ps_par hc hN hi hk hik hx hy (pa_cons ha (pa_cons hb pa_nil h2) h1) hsw hs) fun D σ H h => by
  obtain ⟨B, G, ρ, o, ρ', s, e, kk⟩ := h
  obtain ⟨⟨r, ρ1⟩, e1, e⟩ := bind_ok e
  obtain ⟨⟨q, ρ2⟩, e2, e⟩ := bind_ok e
  cases e
  refine ⟨G, ρ, r, ρ1, s.st, e1, fun v G1 H1 n h => ?_⟩
  have s1 := s.step n
  refine ⟨G1, ρ1, q, ρ2, n.st, e2, fun v2 G2 H2 n2 hh => ⟨v, v2, rfl, ?_⟩⟩
  have s2 := s1.step n2
  have r1 : RepR X.K A (OwnS σ ρ2) B.H G2 H2 v r := (RepR.base s h).nx n2
  have r2 : RepR X.K A (OwnS σ ρ2) B.H G2 H2 v2 q := RepR.base s1 hh
  obtain ⟨G3, s3⟩ := s2.keep2 (w := w) (i := i) (k := k) r1 r2 (fun h1 h2 => by
    unfold RepR at h hh
    rw [if_pos h1] at h
    rw [if_pos h2] at hh
    obtain ⟨p, e1, _, x, _, _⟩ := h
    obtain ⟨p2, e3, _, _, _, y⟩ := hh
    intro z
    rw [e1, e3] at z
    cases z
    obtain ⟨o, x⟩ := x.ex
    rw [y] at x; cases x) hik hw
  exact kk _ G3 H2 s3
end
end DY

set_option Elab.async false
set_option linter.all false
set_option maxRecDepth 100000
set_option maxHeartbeats 4000000
namespace DY
open PySem L2 PySem.Spec PyProof.Rows
variable [Tb]
section
variable {K : PySem.W.Frag} {A : CT} {j : Option Nat} {B : Bs} {G G' G1 G2 H H' H1 H2 : Hp} {σ σ' : L2.St} {ρ ρ1 ρ2 ρ' : Env} {Q : VK}
/-- slot i's own object is written -/
theorem St.write {i : Nat} {d d' : D} {p : Addr} {o : HO} (s : St K A σ G H ρ) (h : ρ[i]? = some (.ow d)) (hp : σ[i]? = some (some (.ref p))) (new : Has K A G (upd H p o) p d') : Nx K A σ G H ρ G (upd H p o) (ρ.set i (.ow d')) := by
  have hO : Own σ ρ i p := ⟨⟨d, h⟩, hp⟩
  obtain ⟨gn, _, _, _⟩ := hO.has s
  have ow : ∀ k q, Own σ (ρ.set i (.ow d')) k q → Own σ ρ k q := fun k q ⟨⟨d2, h1⟩, h2⟩ => by
    by_cases e : i = k
    · subst e; exact ⟨⟨d, h⟩, h2⟩
    · rw [List.getElem?_set_ne e] at h1; exact ⟨⟨d2, h1⟩, h2⟩
  have other : ∀ q, q ≠ p → ∀ u, H q = some u → upd H p o q = some u := fun q n u z => by rw [upd_ne n]; exact z
  refine ⟨⟨fun _ _ z => z, fun _ z => .inl z, fun q u z n _ => other q (fun e => n (e ▸ ⟨i, hO⟩)) u z, fun q z => ?_⟩, ⟨⟨fun q u z => ?_, ?_, s.sub.nt, s.sub.bs⟩, by rw [List.length_set]; exact s.len, fun k z hz => ?_, fun a b q ha hb => s.dist a b q (ow a q ha) (ow b q hb)⟩, ow⟩
  · by_cases e : q = p
    · subst e; rw [upd_same]; exact fun x => nomatch x
    · rw [upd_ne e]; exact z
  · have ne : q ≠ p := fun e => by subst e; rw [gn] at z; cases z
    rw [upd_ne ne]
    exact s.sub q u z
  · obtain ⟨_, _, _, hh⟩ := hO.has s
    obtain ⟨o0, e0, n0⟩ := hh.nt
    exact nT.up e0 n0 s.sub.tb
  · by_cases e : i = k
    · subst e
      rw [List.getElem?_set_self (List.getElem?_eq_some_iff.mp h).1] at hz
      cases (Option.some.inj hz)
      exact ⟨p, getD_of hp, gn, new⟩
    · rw [List.getElem?_set_ne e] at hz
      have q := s.slot k z hz
      cases z with
      | un => trivial
      | sh d2 => exact q
      | ow d2 =>
        obtain ⟨p2, e1, n1, h1⟩ := q
        have ne : p2 ≠ p := fun z => e (s.dist i k p hO ⟨⟨d2, hz⟩, z ▸ getD_some e1⟩)
        exact ⟨p2, e1, n1, h1.mono (fun _ _ z => z) fun u z _ => other p2 ne u z⟩
theorem St.at_ {i : Nat} {d : D} (s : St K A σ G H ρ) (h : ρ[i]? = some (.ow d)) : ∃ p, σ[i]? = some (some (.ref p)) ∧ G p = none ∧ Has K A G H p d := by
  obtain ⟨p, e, n, z⟩ := s.slot i _ h
  exact ⟨p, getD_some e, n, z⟩
/-! ### xs.append(e), xs.pop(..) -/
theorem mut_use {f : D → List D → R (D × D)} {i : Nat} {ms : List Ev} {r : V → List V → Hp → VK → Prop} (hl : ∀ d xs q, f d xs = .ok q → ∃ ds, d = .lst ds)
    (hr : ∀ {p : Addr} {vs ws : List V} {ds xs : List D} {d' y : D} {G H : Hp} {Q : VK}, Sub G H → H p = some (.lst vs) → Reps K A G vs ds → Reps K A G ws xs → f (.lst ds) xs = .ok (y, d') → (∀ v o, Rep K A G v y → Has K A G (upd H p o) p d' → Q v (upd H p o)) → r (.ref p) ws H Q)
    (h : liftE K A (eMut f i ms) σ H Q) : tBM K "list" r (tVar i) (liftA K A ms) σ H Q := by
  obtain ⟨G, ρ, r', ρ', s, e, k⟩ := h
  obtain ⟨d0, e0, ea⟩ := bind_ok e
  obtain ⟨_, el, eb⟩ := bind_ok ea
  obtain ⟨⟨xs, ρ1⟩, e1, ec⟩ := bind_ok eb
  obtain ⟨ds0, hd0⟩ : ∃ ds, d0 = .lst ds := by cases d0 <;> first | exact ⟨_, rfl⟩ | cases el
  rw [hd0] at e0
  clear ea eb el e
  have e := ec
  clear ec
  obtain ⟨v, hv, rb⟩ := look_at s e0
  dsimp only at e
  split at e
  · rename_i d hd
    obtain ⟨⟨y, d'⟩, e2, e⟩ := bind_ok e
    cases e
    obtain ⟨p0, vs0, rfl, h0, _⟩ := rb.lst s.sub
    refine ⟨_, hv, .inl ⟨rfl, vs0, SqL.of h0⟩, G, ρ, xs, ρ1, s, e1, fun ws G1 H1 n rs => ?_⟩
    obtain ⟨p, hp, gn, hh⟩ := n.st.at_ hd
    rw [hv] at hp
    cases hp
    obtain ⟨ds, rfl⟩ := hl _ _ _ e2
    obtain ⟨vs, h1, h2⟩ := hh
    exact hr n.st.sub h1 h2 rs e2 fun w o rw' new => k w G1 _ (n.trans (n.st.write hd hv new)) (RepR.of rw')
  · cases e
theorem app_l (d : D) (xs : List D) (q : D × D) (e : appendM d xs = .ok q) : ∃ ds, d = .lst ds := by
  unfold appendM at e
  split at e
  · exact ⟨_, rfl⟩
  · cases e
theorem app_r {p : Addr} {vs ws : List V} {ds xs : List D} {d' y : D} (sb : Sub G H) (hp : H p = some (.lst vs)) (r : Reps K A G vs ds) (rs : Reps K A G ws xs) (e : appendM (.lst ds) xs = .ok (y, d')) (k : ∀ v o, Rep K A G v y → Has K A G (upd H p o) p d' → Q v (upd H p o)) : rAppend (.ref p) ws H Q := by
  unfold appendM at e
  split at e
  · rename_i h; cases h
    obtain ⟨w, rfl, rw'⟩ := rs.inv1
    split at e
    · rename_i q
      cases e
      exact ⟨p, vs, w, rfl, rfl, hp, small1000 (by rw [r.len]; exact Nat.le_of_lt q), k _ _ .non ⟨_, upd_same, r.append (.cons rw' .nil)⟩⟩
    · cases e
  · cases e
end
end DY

set_option Elab.async false
set_option linter.all false
set_option maxRecDepth 100000
set_option maxHeartbeats 4000000
namespace DY
open PySem L2 PySem.Spec PyProof.Rows
variable [Tb]
section
variable {X : Cx} {A : CT} {x : Str} {pos pos' p apos cpos : Pos} {i : Nat} {a b e : Expr} {ma mb me : Ev} {j : Option Nat}
theorem pd_append (h : PE X (.Name x pos') (tVar i)) (ha : PDA A X [e] [me])
    (hx : ∀ {r : V → List V → Hp → VK → Prop}, MtM X "list.append" r → PE X (.Call (.Attribute (.Name x pos') "append" apos) [e] [] pos) (tBM X.K "list" r (tVar i) (liftA X.K A [me]))) :
    PD A X (.Call (.Attribute (.Name x pos') "append" apos) [e] [] pos) (eMut appendM i [me]) := PE.imp (hx mt_append) fun σ H Q q => mut_use (r := rAppend) app_l app_r q
/-! ### slot[e] = v -/
def rPutD (o i v : V) (H : Hp) (Q : Hp → Prop) : Prop := rSetL o i v H Q ∨ ∃ a H4, o = .ref a ∧ DPut H a i v H4 ∧ Q H4
theorem set_any (hu : X.A.units + 1 < cLine) : PSet X rPutD := by
  intro pins s σ H o i v ov iv u Q I ro ri rv q
  rcases q with q | ⟨a, H4, rfl, g, q⟩
  · exact set_list pins s σ H o i v ov iv u Q I ro ri rv q
  · obtain rfl : ov = Value.ref a := ro
    exact d_setItem hu I g ri rv fun s' I' => ⟨H4, I', q⟩
theorem put_use {K : PySem.W.Frag} {D : Ends} {σ : L2.St} {H : Hp} (h : liftS K A j (sPut putM i me mb) D σ H) : tAsg (liftE K A mb) (gSub (tVar i) (liftE K A me) rPutD) D σ H := by
  obtain ⟨B, G, ρ, o, ρ', s, e, k⟩ := h
  obtain ⟨⟨y, ρ1⟩, e1, e⟩ := bind_ok e
  obtain ⟨d0, e0, e⟩ := bind_ok e
  obtain ⟨⟨xk, ρ2⟩, e2, e⟩ := bind_ok e
  dsimp only at e
  split at e
  · rename_i d hd
    obtain ⟨d', e3, e⟩ := bind_ok e
    cases e
    refine use_val s.st e1 fun v G1 H1 n1 r1 => ?_
    obtain ⟨w, hw, _⟩ := look_at n1.st e0
    refine ⟨w, hw, use_val n1.st e2 fun kx G2 H2 n2 r2 => ?_⟩
    obtain ⟨p, hp, gn, hh⟩ := n2.st.at_ hd
    rw [hw] at hp
    cases hp
    have fin : ∀ o, Has K A G2 (upd H2 p o) p d' → D.nx σ (upd H2 p o) := fun o new => k σ G2 _ (s.step ((n1.trans n2).trans (n2.st.write hd hw new)))
    have r1' := r1.mono n2.gs
    unfold putM at e3
    split at e3
    · cases r2
      obtain ⟨vs, h1, h2⟩ := hh
      split at e3
      · rename_i jx hj
        cases e3
        exact .inl ⟨p, vs, _, jx, rfl, rfl, h1, by rw [h2.len]; exact hj, fin _ ⟨_, upd_same, h2.set r1' jx⟩⟩
      · cases e3
    · cases r2
      rename_i kvs ii
      obtain ⟨kv, h1, h2⟩ := hh
      split at e3
      · rename_i q
        cases e3
        exact .inr ⟨p, _, rfl, DPut.k (k := .inl ii) h1 (small1000 (by rw [h2.len]; exact Nat.le_of_lt q)), fin _ ⟨_, upd_same, h2.put (.inl ii) r1'⟩⟩
      · cases e3
    · cases r2
      rename_i kvs ll
      obtain ⟨kv, h1, h2⟩ := hh
      split at e3
      · rename_i q
        cases e3
        exact .inr ⟨p, _, rfl, DPut.k (k := .inr (S ll)) h1 (small1000 (by rw [h2.len]; exact Nat.le_of_lt q)), fin _ ⟨_, upd_same, h2.put (.inr ll) r1'⟩⟩
      · cases e3
    · obtain ⟨kk, e4, e3⟩ := bind_ok e3
      obtain ⟨bb, rfl, hb⟩ := key_tup r2 e4 n2.st.sub
      obtain ⟨kv, h1, h2⟩ := hh
      split at e3
      · rename_i q
        cases e3
        exact .inr ⟨p, _, rfl, DPut.t h1 hb (small1000 (by rw [h2.len]; exact Nat.le_of_lt q)), fin _ ⟨_, upd_same, h2.put kk r1'⟩⟩
      · cases e3
    · cases e3
  · cases e
theorem pds_put (hu : X.A.units + 1 < cLine) (h : PE X (.Name x p) (tVar i)) (he : PD A X e me) (hb : PD A X b mb)
    (ha : ∀ v, assign (.Subscript (.Name x p) e pos') X.env v = (do
      let ov ← holding [v] (eval (.Name x p) X.env)
      let iv ← holding [v, ov] (eval e X.env)
      standAt pos'
      holding [v, ov, iv] (setItem ov iv v)
      release [v, ov, iv] []) := by intro _; rfl)
    (hs : swapsWithSole [.Subscript (.Name x p) e pos'] b pos.line X.env = pure false := by rfl) (hw : swappedStores [.Subscript (.Name x p) e pos'] b X.env = pure none := by rfl)
    (h1 : (assignEach [.Subscript (.Name x p) e pos'] X.env).map (·.2) = [assign (.Subscript (.Name x p) e pos') X.env] := by rfl) :
    PDS A j X (.Assign [.Subscript (.Name x p) e pos'] b pos) (sPut putM i me mb) := PS.imp (ps_asg hb (pg_sub h he (set_any hu) ha) hs hw h1) fun D σ H => put_use
/-! ### attributes -/
theorem lookup_zip : ∀ {nms : List Str} {vs : List V} {k : Nat} {f : Str} {v : V}, nms.Nodup → nms[k]? = some f → vs[k]? = some v → (nms.zip vs).lookup f = some v
  | [], _, _, _, _, _, h, _ => by simp at h
  | _ :: _, [], _, _, _, _, _, h => by simp at h
  | n :: nms, w :: vs, 0, f, v, _, h1, h2 => by
    simp at h1 h2
    subst h1; subst h2
    show List.lookup n ((n, w) :: nms.zip vs) = _
    rw [List.lookup_cons]; simp
  | n :: nms, w :: vs, k + 1, f, v, nd, h1, h2 => by
    have nd' := List.nodup_cons.mp nd
    have h1' : nms[k]? = some f := by simpa using h1
    have ne : (f == n) = false := beq_eq_false_iff_ne.mpr fun z => nd'.1 (z ▸ List.mem_of_getElem? h1')
    show List.lookup f ((n, w) :: nms.zip vs) = _
    rw [List.lookup_cons, ne]
    exact lookup_zip nd'.2 h1' (by simpa using h2)
/-- what the written part shows of an attribute: the k-th of class c -/
structure FldOk (K : PySem.W.Frag) (A : CT) (c k : Nat) (f : Str) : Prop where
  na : NoAttr K (A.ad c) f
  at_ : (A.nms c)[k]? = some f
  nd : (A.nms c).Nodup
theorem pd_fld {c k : Nat} {f : Str} (kd : KD X.K A) (F : FldOk X.K A c k f) (ha : PD A X a ma) (hb : attributeBase a f X.env (eval a X.env) = eval a X.env := by rfl) : PD A X (.Attribute a f pos) (eUn (fldD c k) ma) := PE.imp (pe_fld ha hb) fun σ H Q q => by
  obtain ⟨G, ρ, r, ρ', s, e, kk⟩ := q
  obtain ⟨⟨d1, ρ1⟩, e1, e⟩ := bind_ok e
  obtain ⟨r', e3, e⟩ := bind_ok e
  cases e
  refine use_val s e1 fun v G1 H1 n r1 => ?_
  unfold fldD at e3
  split at e3
  · split at e3
    · rename_i hc
      subst hc
      obtain ⟨d, fl⟩ := r
      obtain ⟨h1, rfl⟩ := opt_ok e3
      cases r1 with
      | ins h l c rs =>
        obtain ⟨w, h2, h3⟩ := rs.get' h1
        exact ⟨_, _, _, _, w, rfl, n.st.sub.ins h, (kd.cf _ c).cl, F.na, lookup_zip F.nd F.at_ h2, kk w G1 H1 n (RepR.of h3)⟩
    · cases e3
  · cases e3
theorem putF_zip : ∀ {nms : List Str} {vs : List V} {f : Str} {y : V}, nms.Nodup → nms[vs.length]? = some f → putF f y (nms.zip vs) = nms.zip (vs ++ [y])
  | [], _, _, _, _, h => by simp at h
  | n :: nms, [], f, y, _, h => by
    simp at h
    subst h
    cases nms <;> rfl
  | n :: nms, w :: vs, f, y, nd, h => by
    have nd' := List.nodup_cons.mp nd
    have h' : nms[vs.length]? = some f := by simpa using h
    have ne : ¬ n = f := fun z => nd'.1 (z ▸ List.mem_of_getElem? h')
    show (if n = f then (n, y) :: nms.zip vs else (n, w) :: putF f y (nms.zip vs)) = (n, w) :: nms.zip (vs ++ [y])
    rw [if_neg ne, putF_zip nd'.2 h']
theorem pds_fld {c k : Nat} {f : Str} (kd : KD X.K A) (F : FldOk X.K A c k f) (hz : (A.nms c).length ≤ 900) (h : PE X (.Name x p) (tVar 0)) (hb : PD A X b mb) (hs : swapsWith b (some (.Attribute (.Name x p) f pos')) pos.line X.env = pure false := by rfl) :
    PDS A j X (.Assign [.Attribute (.Name x p) f pos'] b pos) (sFld c k mb) := PS.imp (ps_fld h hb hs) fun D σ H q => by
  obtain ⟨B, G, ρ, o, ρ', s, e, kk⟩ := q
  obtain ⟨⟨y, ρ1⟩, e1, e⟩ := bind_ok e
  dsimp only at e
  split at e
  · rename_i c' fs hd
    split at e
    · rename_i hk0
      cases e
      obtain ⟨rfl, hk⟩ := hk0
      refine use_val s.st e1 fun v G1 H1 n r1 => ?_
      obtain ⟨q, hp, gn, dx, vs, h1, h2, h3, h4⟩ := n.st.at_ hd
      have hl : vs.length = k := by rw [h4.len]; exact hk.symm
      have e5 : putF f v ((A.nms c').zip vs) = (A.nms c').zip (vs ++ [v]) := putF_zip F.nd (by rw [hl]; exact F.at_)
      refine ⟨.ref q, hp, q, _, dx, _, rfl, h1, (kd.cf _ h3).cl, F.na, by rw [List.length_zip]; omega, ?_⟩
      rw [e5]
      refine kk σ G1 _ (s.step (n.trans (n.st.write hd hp ⟨dx, _, upd_same, ?_, h3, h4.append (.cons r1 .nil)⟩)))
      have := (List.getElem?_eq_some_iff.mp F.at_).1
      rw [List.length_append, hl]; exact this
    · cases e
  · cases e
end
end DY

set_option Elab.async false
set_option linter.all false
set_option maxRecDepth 100000
set_option maxHeartbeats 4000000
namespace DY
open PySem L2 PySem.Spec PyProof.Rows
variable [Tb]
/-! ### d.get(k, z), sep.join(l) -/
section
variable {K : PySem.W.Frag} {A : CT} {G G' G1 G2 H H' H1 H2 : Hp} {σ σ' : L2.St} {ρ ρ1 ρ2 ρ' : Env} {Q : VK} {ma mk mz : Ev} {i : Nat}
end
section
variable {X : Cx} {A : CT} {x : Str} {pos pos' apos cpos : Pos} {i : Nat} {a e f : Expr} {ma me mf : Ev}
theorem fold_S (a : List Nat) : ∀ (xs : List (List Nat)) (acc : List Nat), ((xs.map S).foldl (fun acc p => acc ++ (S a).cps ++ p.cps) acc.toArray).toList = xs.foldl (fun acc y => acc ++ a ++ y) acc
  | [], acc => by simp
  | x :: xs, acc => by
    rw [List.map_cons, List.foldl_cons, List.foldl_cons]
    have : acc.toArray ++ (S a).cps ++ (S x).cps = (acc ++ a ++ x).toArray := by
      show acc.toArray ++ a.toArray ++ x.toArray = _
      simp
    rw [this]
    exact fold_S a xs _
theorem join_S (a : List Nat) (xs : List (List Nat)) : Txt.join (S a) (xs.map S) = S (joinS a xs) := by
  have ext : ∀ u v : Str, u.cps.toList = v.cps.toList → u = v := fun u v h => by rw [← S_cps u, ← S_cps v, h]
  refine ext _ _ ?_
  rw [S_toList]
  cases xs with
  | nil => rfl
  | cons x xs =>
    show ((xs.map S).foldl (fun acc p => acc ++ (S a).cps ++ p.cps) x.toArray).toList = _
    rw [fold_S]; rfl
def joinB (x y : D) : R Rv := joinD x [y]
theorem pd_join {o e : Expr} {mo me : Ev} (ho : PD A X o mo) (he : PD A X e me)
    (hx : ∀ {r : V → List V → Hp → VK → Prop} {to te : TE}, MtR X "str.join" r → PE X o to → PE X e te → PE X (.Call (.Attribute o "join" apos) [e] [] pos) (tM1 r to te)) :
    PD A X (.Call (.Attribute o "join" apos) [e] [] pos) (eBin joinB mo me) := PE.imp (hx SL.mt_joinX ho he) fun σ H Q q => by
  obtain ⟨G, ρ, r, ρ', s, e, k⟩ := q
  obtain ⟨⟨d1, ρ1⟩, e1, ea⟩ := bind_ok e
  obtain ⟨⟨d2, ρ2⟩, e2, eb⟩ := bind_ok ea
  obtain ⟨r', e3, ec⟩ := bind_ok eb
  clear e ea eb
  cases ec
  unfold joinB joinD at e3
  split at e3
  · rename_i hh
    cases hh
    refine use_val s e1 fun v G1 H1 n1 r1 => ?_
    cases r1
    refine ⟨⟨_, rfl⟩, use_val n1.st e2 fun w G2 H2 n2 r2 => ?_⟩
    cases r2 with | lst h1 q1 =>
    obtain ⟨ss, e4, e3⟩ := bind_ok e3
    split at e3
    · rename_i hz
      cases e3
      have := strs_rep q1 e4
      subst this
      refine ⟨_, _, ss.map S, rfl, rfl, .inl (SqL.of (n2.st.sub.lst h1)), ?_, ?_⟩
      · rw [List.map_map, List.length_map, S_len]
        have : (ss.map ((fun x : Str => x.length) ∘ S)) = ss.map (·.length) := List.map_congr_left fun l _ => S_len l
        rw [this]; omega
      · rw [join_S]
        exact k _ G2 H2 (n1.trans n2) (RepR.of (.str _))
    · cases e3
  · cases e3
end
/-! ### defs -/
section
variable (K : PySem.W.Frag) (A : CT)
/-- the promise of a def by its mirror -/
def spF (F : Fn) (n : Nat) : Sp := fun vs H Q _ => vs.length = n ∧ rDn K A F vs H Q
def spR (F : FnR) (n j : Nat) : Sp := fun vs H Q _ => vs.length = n ∧ j < n ∧ ∃ G ds d p r d', Sub G H ∧ vs[j]? = some (.ref p) ∧ Reps K A G (vs.eraseIdx j) ds ∧ G p = none ∧ Has K A G H p d ∧ F ds d = .ok (r, d') ∧
  ∀ v G' H', Ext (fun q => q = p) G H G' H' → Sub G' H' → G' p = none → Has K A G' H' p d' → RepN K A H G' H' v r → Q v H'
end
section
variable {K : PySem.W.Frag} {A : CT} {G H : Hp} {Q : VK}
theorem reps_un {G : Hp} : ∀ {vs : List V} {ds : List D}, Reps K A G vs ds → ∀ (i : Nat) (s : Slot), (ds.map Slot.sh)[i]? = some s → ∃ d v, s = Slot.sh d ∧ vs[i]? = some v ∧ Rep K A G v d := fun {vs ds} h i s e => by
  rw [List.getElem?_map] at e
  obtain ⟨d, h1, rfl⟩ := Option.map_eq_some_iff.mp e
  obtain ⟨v, h2, h3⟩ := h.get' h1
  exact ⟨d, v, rfl, h2, h3⟩
/-- the slots at a def's entry -/
theorem start_st {N : List Str} {vs : List V} {ds : List D} {n : Nat} (hn : N.length = n) (s : Sub G H) (r : Reps K A G vs ds) (hl : ds.length ≤ n) : St K A (L2.start N vs) G H (slots n ds) := by
  have lv : vs.length = ds.length := r.len
  have hslot : ∀ (i : Nat) (s : Slot), (slots n ds)[i]? = some s → (∃ d v, s = Slot.sh d ∧ (L2.start N vs)[i]? = some (some v) ∧ Rep K A G v d) ∨ s = Slot.un := fun i s e => by
    unfold slots at e
    by_cases hi : i < ds.length
    · rw [List.getElem?_append_left (by simpa using hi)] at e
      obtain ⟨d, v, rfl, h1, h2⟩ := reps_un r i s e
      refine .inl ⟨d, v, rfl, ?_, h2⟩
      unfold L2.start
      rw [List.getElem?_append_left (by rw [List.length_map, lv]; exact hi), List.getElem?_map, h1]; rfl
    · rw [List.getElem?_append_right (by simpa using hi)] at e
      exact .inr (List.eq_of_mem_replicate (List.mem_of_getElem? e))
  have noOwn : ∀ i p, ¬ Own (L2.start N vs) (slots n ds) i p := fun i p ⟨⟨d, h1⟩, _⟩ => by
    rcases hslot i _ h1 with ⟨_, _, e, _⟩ | e <;> cases e
  refine ⟨s, ?_, fun i s e => ?_, fun i j p h _ => absurd h (noOwn i p)⟩
  · unfold L2.start slots
    rw [List.length_append, List.length_append, List.length_map, List.length_map, List.length_replicate, List.length_replicate, lv, hn]
  · rcases hslot i s e with ⟨d, v, rfl, h1, h2⟩ | rfl
    · exact ⟨v, getD_of h1, h2⟩
    · trivial
theorem noOwn_start {N : List Str} {vs : List V} {ds : List D} {n : Nat} : ∀ i p, ¬ Own (L2.start N vs) (slots n ds) i p := fun i p ⟨⟨d, h1⟩, _⟩ => by
  unfold slots at h1
  by_cases hi : i < ds.length
  · rw [List.getElem?_append_left (by simpa using hi), List.getElem?_map] at h1
    obtain ⟨_, _, e⟩ := Option.map_eq_some_iff.mp h1
    cases e
  · rw [List.getElem?_append_right (by simpa using hi)] at h1
    have := List.eq_of_mem_replicate (List.mem_of_getElem? h1)
    cases this
/-- a def's promise from its body's mirror -/
theorem enter_F {N : List Str} {n p : Nat} {body : Sv} {vs : List V} {E : XK} (hn : N.length = n) (hp : p ≤ n) (h : spF K A (mkFn n p body) p vs H Q E) : liftS K A none body { nx := fun _ H' => Q .non H', rt := Q } (L2.start N vs) H := by
  obtain ⟨_, G, ds, r, s, rs, e, k⟩ := h
  unfold mkFn at e
  split at e
  · rename_i hl
    obtain ⟨⟨o, ρ'⟩, e1, e⟩ := bind_ok e
    have s0 := start_st (N := N) hn s rs (by omega)
    refine ⟨⟨G, H, none⟩, G, slots n ds, o, ρ', ⟨s0, Ext.refl _ _ _, fun i p z => absurd z (noOwn_start i p)⟩, e1, ?_⟩
    have x0 : ∀ {σ' G' H'}, StF K A none ⟨G, H, none⟩ σ' G' H' ρ' → Nx0 G H G' H' := fun {σ' G' H'} z => ⟨z.ext.weak (fun p w => nomatch w), z.st.sub⟩
    cases o with
    | nx =>
      cases e
      exact fun σ' G' H' z => k .non G' H' (x0 z) (RepR.of .non)
    | bk => cases e
    | ct => cases e
    | rt r' =>
      cases e
      intro v σ' G' H' z hr
      refine k v G' H' (x0 z) ?_
      unfold RepN RepR at *
      split at hr
      · rename_i q
        rw [if_pos q]
        obtain ⟨p, e, h1, h2, _, h4⟩ := hr
        exact ⟨p, e, h1, h2, id, h4⟩
      · rename_i q
        rw [if_neg q]; exact hr
  · cases e
theorem insert_reps {G : Hp} {vs : List V} {ds : List D} {j : Nat} {w : V} : Reps K A G (vs.eraseIdx j) ds → vs[j]? = some w → ∃ xs ys, vs = xs ++ w :: ys ∧ xs.length = j ∧ Reps K A G xs (ds.take j) ∧ Reps K A G ys (ds.drop j) := fun h e => by
  have hj := (List.getElem?_eq_some_iff.mp e).1
  refine ⟨vs.take j, vs.drop (j + 1), ?_, by rw [List.length_take]; omega, ?_, ?_⟩
  · have := (List.getElem?_eq_some_iff.mp e).2
    rw [← this]
    exact (List.take_append_drop j vs).symm.trans (by rw [List.drop_eq_getElem_cons hj])
  · have := h.take j
    rw [List.eraseIdx_eq_take_drop_succ, List.take_append_of_le_length (by rw [List.length_take]; omega), List.take_take, Nat.min_self] at this
    exact this
  · have := h.drop j
    rw [List.eraseIdx_eq_take_drop_succ, List.drop_append_of_le_length (by rw [List.length_take]; omega), List.drop_take, Nat.sub_self, List.take_zero, List.nil_append] at this
    exact this
end
end DY

set_option Elab.async false
set_option linter.all false
set_option maxRecDepth 100000
set_option maxHeartbeats 4000000
namespace DY
open PySem L2 PySem.Spec PyProof.Rows
variable [Tb]
section
variable {K : PySem.W.Frag} {A : CT} {G G' G1 G2 H H' H1 H2 : Hp} {σ σ' : L2.St} {ρ ρ1 ρ2 ρ' : Env} {Q : VK}
theorem ins_get {vs : List V} {ds : List D} {j : Nat} {w : V} {d : D} (h : Reps K A G (vs.eraseIdx j) ds) (e : vs[j]? = some w) : ∀ i, i ≠ j → ∀ x, (ds.take j ++ d :: ds.drop j)[i]? = some x → ∃ v, vs[i]? = some v ∧ Rep K A G v x := by
  obtain ⟨xs, ys, rfl, hl, h1, h2⟩ := insert_reps h e
  intro i hi x hx
  have tl : (ds.take j).length = j := by rw [← h1.len, hl]
  by_cases q : i < j
  · rw [List.getElem?_append_left (by omega)] at hx
    obtain ⟨v, e1, e2⟩ := h1.get' hx
    exact ⟨v, by rw [List.getElem?_append_left (by omega)]; exact e1, e2⟩
  · rw [List.getElem?_append_right (by omega), tl] at hx
    obtain ⟨m, hm⟩ : ∃ m, i - j = m + 1 := ⟨i - j - 1, by omega⟩
    rw [hm] at hx
    obtain ⟨v, e1, e2⟩ := h2.get' (show (ds.drop j)[m]? = some x by simpa using hx)
    refine ⟨v, ?_, e2⟩
    rw [List.getElem?_append_right (by omega), hl, hm]
    simpa using e1
theorem start_stR {N : List Str} {n p j : Nat} {vs : List V} {ds : List D} {d : D} {q : Addr} (hn : N.length = n) (hp : p ≤ n) (hvl : vs.length = p) (s : Sub G H) (e0 : vs[j]? = some (.ref q)) (rs : Reps K A G (vs.eraseIdx j) ds) (gn : G q = none) (hh : Has K A G H q d) (hl : ds.length + 1 = p) (hj : j < p) : St K A (L2.start N vs) G H ((slots n (ds.take j ++ d :: ds.drop j)).set j (.ow d)) ∧ ∀ i p', Own (L2.start N vs) ((slots n (ds.take j ++ d :: ds.drop j)).set j (.ow d)) i p' → i = j ∧ p' = q := by
  have dl : (ds.take j ++ d :: ds.drop j).length = p := by
    rw [List.length_append, List.length_cons, List.length_take, List.length_drop]; omega
  have sl : (L2.start N vs).length = n := by unfold L2.start; rw [List.length_append, List.length_map, List.length_replicate, hvl, hn]; omega
  have sj : (L2.start N vs)[j]? = some (some (.ref q)) := by
    unfold L2.start
    rw [List.getElem?_append_left (by rw [List.length_map]; omega), List.getElem?_map, e0]; rfl
  have ρl : (slots n (ds.take j ++ d :: ds.drop j)).length = n := by unfold slots; rw [List.length_append, List.length_map, List.length_replicate, dl]; omega
  have hslot : ∀ (i : Nat) (z : Slot), ((slots n (ds.take j ++ d :: ds.drop j)).set j (.ow d))[i]? = some z → (i = j ∧ z = .ow d) ∨ (i ≠ j ∧ ((∃ x v, z = Slot.sh x ∧ (L2.start N vs)[i]? = some (some v) ∧ Rep K A G v x) ∨ z = .un)) := fun i z hz => by
    by_cases q : j = i
    · subst q
      rw [List.getElem?_set_self (by omega)] at hz
      exact .inl ⟨rfl, (Option.some.inj hz).symm⟩
    · refine .inr ⟨fun z => q z.symm, ?_⟩
      rw [List.getElem?_set_ne q] at hz
      unfold slots at hz
      by_cases hi : i < p
      · rw [List.getElem?_append_left (by rw [List.length_map]; omega), List.getElem?_map] at hz
        obtain ⟨x, h1, h2⟩ := Option.map_eq_some_iff.mp hz
        obtain ⟨v, h3, h4⟩ := ins_get rs e0 i (fun z => q z.symm) x h1
        refine .inl ⟨x, v, h2.symm, ?_, h4⟩
        unfold L2.start
        rw [List.getElem?_append_left (by rw [List.length_map]; omega), List.getElem?_map, h3]; rfl
      · rw [List.getElem?_append_right (by rw [List.length_map]; omega)] at hz
        exact .inr (List.eq_of_mem_replicate (List.mem_of_getElem? hz))
  have ow : ∀ i p', Own (L2.start N vs) ((slots n (ds.take j ++ d :: ds.drop j)).set j (.ow d)) i p' → i = j ∧ p' = q := fun i p' ⟨⟨d2, h1⟩, h2⟩ => by
    rcases hslot i _ h1 with ⟨rfl, _⟩ | ⟨_, ⟨_, _, z, _⟩ | z⟩
    · rw [sj] at h2; cases h2; exact ⟨rfl, rfl⟩
    · cases z
    · cases z
  have s0 : St K A (L2.start N vs) G H ((slots n (ds.take j ++ d :: ds.drop j)).set j (.ow d)) := by
    refine ⟨s, by rw [List.length_set, sl, ρl], fun i z hz => ?_, fun a b p' ha hb => by rw [(ow a p' ha).1, (ow b p' hb).1]⟩
    rcases hslot i z hz with ⟨rfl, rfl⟩ | ⟨_, ⟨x, v, rfl, h1, h2⟩ | rfl⟩
    · exact ⟨q, getD_of sj, gn, hh⟩
    · exact ⟨v, getD_of h1, h2⟩
    · trivial
  exact ⟨s0, ow⟩
theorem enter_R {N : List Str} {n p j : Nat} {body : Sv} {vs : List V} {E : XK} (hn : N.length = n) (hp : p ≤ n) (h : spR K A (mkFnR n p j body) p j vs H Q E) : liftS K A (some j) body { nx := fun _ H' => Q .non H', rt := Q } (L2.start N vs) H := by
  obtain ⟨hvl, hj, G, ds, d, q, r, d', s, e0, rs, gn, hh, e, k⟩ := h
  unfold mkFnR at e
  split at e
  · rename_i hl
    obtain ⟨⟨o, ρ'⟩, e1, e⟩ := bind_ok e
    obtain ⟨r', e2, e⟩ := bind_ok e
    obtain ⟨s0, ow⟩ := start_stR (N := N) hn hp hvl s e0 rs gn hh hl.1 hj
    refine ⟨⟨G, H, some q⟩, G, _, o, ρ', ⟨s0, Ext.refl _ _ _, fun i p' z => ⟨fun _ => by rw [(ow i p' z).2], fun w => absurd (by rw [(ow i p' z).1]) w⟩⟩, e1, ?_⟩
    have fin : ∀ {v : V} {σ' : L2.St} {G' H' : Hp}, StF K A (some j) ⟨G, H, some q⟩ σ' G' H' ρ' → RepR K A (OwnS σ' ρ') H G' H' v r' → Q v H' := fun {v σ' G' H'} z hr => by
      split at e
      · rename_i d2 hd
        cases e
        obtain ⟨p', h1, h2, h3⟩ := z.st.at_ hd
        obtain rfl : q = p' := Option.some.inj ((z.own j p' ⟨⟨_, hd⟩, h1⟩).1 rfl)
        refine k v G' H' (z.ext.weak fun x w => (Option.some.inj w).symm) z.st.sub h2 h3 ?_
        unfold RepN RepR at *
        split at hr
        · rename_i q
          rw [if_pos q]
          obtain ⟨p, e, h1, h2, _, h4⟩ := hr
          exact ⟨p, e, h1, h2, id, h4⟩
        · rename_i q
          rw [if_neg q]; exact hr
      · cases e
    cases o with
    | nx => cases e2; exact fun σ' G' H' z => fin z (RepR.of .non)
    | bk => cases e2
    | ct => cases e2
    | rt r2 => cases e2; exact fun v σ' G' H' z hr => fin z hr
  · cases e
/-- a lent object comes back -/
theorem St.lent {i : Nat} {d d' : D} {p : Addr} (s : St K A σ G H ρ) (h : ρ[i]? = some (.ow d)) (hp : σ[i]? = some (some (.ref p))) (x : Ext (fun q => q = p) G H G' H') (sb : Sub G' H') (gn : G' p = none) (new : Has K A G' H' p d') : Nx K A σ G H ρ G' H' (ρ.set i (.ow d')) := by
  have hO : Own σ ρ i p := ⟨⟨d, h⟩, hp⟩
  have ow : ∀ k q, Own σ (ρ.set i (.ow d')) k q → Own σ ρ k q := fun k q ⟨⟨d2, h1⟩, h2⟩ => by
    by_cases e : i = k
    · subst e; exact ⟨⟨d, h⟩, h2⟩
    · rw [List.getElem?_set_ne e] at h1; exact ⟨⟨d2, h1⟩, h2⟩
  refine ⟨x.weak fun q e => e ▸ ⟨i, hO⟩, ⟨sb, by rw [List.length_set]; exact s.len, fun k z hz => ?_, fun a b q ha hb => s.dist a b q (ow a q ha) (ow b q hb)⟩, ow⟩
  by_cases e : i = k
  · subst e
    rw [List.getElem?_set_self (List.getElem?_eq_some_iff.mp h).1] at hz
    cases (Option.some.inj hz)
    exact ⟨p, getD_of hp, gn, new⟩
  · rw [List.getElem?_set_ne e] at hz
    have q := s.slot k z hz
    cases z with
    | un => trivial
    | sh d2 => obtain ⟨v, h1, h2⟩ := q; exact ⟨v, h1, h2.mono x.gs⟩
    | ow d2 =>
      obtain ⟨p2, e1, n1, h1⟩ := q
      have ne : p2 ≠ p := fun z => e (s.dist i k p hO ⟨⟨d2, hz⟩, z ▸ getD_some e1⟩)
      refine ⟨p2, e1, ?_, h1.mono x.gs fun u z nt => x.hs p2 u z ne nt⟩
      cases z : G' p2 with
      | none => rfl
      | some u =>
        rcases x.fr p2 (by rw [z]; exact fun x => nomatch x) with z | z | z
        · exact absurd n1 z
        · obtain ⟨o, ho⟩ := h1.ex; rw [ho] at z; cases z
        · exact absurd z ne
/-- .. where it was nobody's -/
theorem St.lent0 {p : Addr} (s : St K A σ G H ρ) (no : ¬ OwnS σ ρ p) (x : Ext (fun q => q = p) G H G' H') (sb : Sub G' H') : St K A σ G' H' ρ := by
  refine ⟨sb, s.len, fun k z hz => ?_, s.dist⟩
  have q := s.slot k z hz
  cases z with
  | un => trivial
  | sh d2 => obtain ⟨v, h1, h2⟩ := q; exact ⟨v, h1, h2.mono x.gs⟩
  | ow d2 =>
    obtain ⟨p2, e1, n1, h1⟩ := q
    have ne : p2 ≠ p := fun z => no ⟨k, ⟨d2, hz⟩, z ▸ getD_some e1⟩
    refine ⟨p2, e1, ?_, h1.mono x.gs fun u z nt => x.hs p2 u z ne nt⟩
    cases z : G' p2 with
    | none => rfl
    | some u =>
      rcases x.fr p2 (by rw [z]; exact fun x => nomatch x) with z | z | z
      · exact absurd n1 z
      · obtain ⟨o, ho⟩ := h1.ex; rw [ho] at z; cases z
      · exact absurd z ne
variable (K A) in
def liftAR (ms : List Ev) (i : Nat) (ms' : List Ev) : TA := fun σ H Q => ∃ G ρ ds es ρ1 ρ2 w, St K A σ G H ρ ∧ evs ms ρ = .ok (ds, ρ1) ∧ evs ms' ρ1 = .ok (es, ρ2) ∧ σ[i]? = some (some w) ∧ ∀ vs ws G' H', Nx K A σ G H ρ G' H' ρ2 → Reps K A G' vs ds → Reps K A G' ws es → Q (vs ++ w :: ws) H'
variable (K A) in
def liftAT (ms : List Ev) (m : Ev) : TA := fun σ H Q => ∃ G ρ ds ρ1 t ρ2, St K A σ G H ρ ∧ evs ms ρ = .ok (ds, ρ1) ∧ m ρ1 = .ok (t, ρ2) ∧ ∀ vs w G' H', Nx K A σ G H ρ G' H' ρ2 → Reps K A G' vs ds → RepR K A (OwnS σ ρ2) H G' H' w t → Q (vs ++ [w]) H'
end
section
variable {X : Cx} {A : CT} {x : Str} {pos pos' p : Pos} {i : Nat} {a e : Expr} {es : List Expr} {ma me : Ev} {ms ms' : List Ev}
theorem par_nil (h : PE X (.Name x pos') (tVar i)) (hr : PDA A X es ms) (hs : starEach (.Name x pos' :: es) X.env = (false, eval (.Name x pos') X.env) :: starEach es X.env := by rfl) : PA X (.Name x pos' :: es) (liftAR X.K A [] i ms) := PA.imp (pa_cons h hr hs) fun σ H Q q => by
  obtain ⟨G, ρ, ds, es, ρ1, ρ2, w, s, e1, e2, hw, k⟩ := q
  cases e1
  exact ⟨w, hw, G, _, es, ρ2, s, e2, fun ws G' H' n rs => k [] ws G' H' n .nil rs⟩
theorem par_cons (ha : PD A X a ma) (hr : PA X es (liftAR X.K A ms i ms')) (hs : starEach (a :: es) X.env = (false, eval a X.env) :: starEach es X.env := by rfl) : PA X (a :: es) (liftAR X.K A (ma :: ms) i ms') := PA.imp (pa_cons ha hr hs) fun σ H Q q => by
  obtain ⟨G, ρ, ds, es, ρ1, ρ2, w, s, e1, e2, hw, k⟩ := q
  obtain ⟨⟨d, ρ0⟩, e0, e1⟩ := bind_ok e1
  obtain ⟨⟨ds', ρ1'⟩, e3, e1⟩ := bind_ok e1
  cases e1
  exact use_val s e0 fun v G1 H1 n r => ⟨G1, ρ0, ds', es, _, ρ2, w, n.st, e3, e2, hw, fun vs ws G' H' n2 r1 r2 => k (v :: vs) ws G' H' (n.trans n2) (.cons (r.mono n2.gs) r1) r2⟩
theorem pat_nil (he : PD A X e me) (hs : starEach [e] X.env = (false, eval e X.env) :: starEach [] X.env := by rfl) : PA X [e] (liftAT X.K A [] me) := PA.imp (pa_cons he pa_nil hs) fun σ H Q q => by
  obtain ⟨G, ρ, ds, ρ1, t, ρ2, s, e1, e2, k⟩ := q
  cases e1
  exact ⟨G, _, t, ρ2, s, e2, fun w G' H' n r => k [] w G' H' n .nil r⟩
/-! ### calls -/
variable {CX : CXT} {k n : Nat} {f C : Addr} {fd : FuncData} {ps : List Str} {E : XK}
theorem call_use {K : PySem.W.Frag} {F : Fn} {dvs : List V} {dds : List D} {σ : L2.St} {H : Hp} {Q : VK} (hF : ∀ ds r, F ds = .ok r → ds.length = n) (hd : ∀ G, Reps K A G dvs dds) (h : liftE K A (eN (fun xs => F (xs ++ dds)) ms) σ H Q) : tCall (spF K A F n) dvs E (liftA K A ms) σ H Q := by
  refine TA_mono (n_use h) fun vs H1 q => ?_
  obtain ⟨G, ds, r, s, rs, e, k⟩ := q
  have rr := rs.append (hd G)
  exact ⟨by rw [rr.len]; exact hF _ _ e, G, _, r, s, rr, e, k⟩
theorem pd_callD {F : Fn} {dvs : List V} {ds : List Value} {dds : List D} (hF : ∀ ds r, F ds = .ok r → ds.length = n) (hdd : ∀ G, Reps X.K A G dvs dds) (Fo : FnOk X.prog X.w X.K X.mg X.base CX k f fd ps (spF X.K A F n)) (hr : Room k X.A) (hg : Gl X x) (hm : X.mg x = some (.ref f)) (hk : PySem.W.keepIn X.K (.ref f) = true) (hb : Binds X.K fd ps ds) (hd : Vals dvs ds) (hx : Passes CX X E)
    (ha : PDA A X (e :: es) ms) (hdb : (x == ("__debug__" : Str)) = false := by decide) (he : starEach (e :: es) X.env = (false, eval e X.env) :: starEach es X.env := by rfl) (hpl : (backTo pos (starEach es X.env)).any (·.1) = false := by rfl) :
    PD A X (.Call (.Name x p) (e :: es) [] pos) (eN (fun xs => F (xs ++ dds)) ms) := PE.imp (pe_call Fo hr hg hm hk hb hd hx ha hdb he hpl) fun _ _ _ => call_use hF hdd
theorem app_nil {F : Fn} : (fun xs => F (xs ++ [])) = F := by funext xs; rw [List.append_nil]
theorem pd_call {F : Fn} (hF : ∀ ds r, F ds = .ok r → ds.length = n) (Fo : FnOk X.prog X.w X.K X.mg X.base CX k f fd ps (spF X.K A F n)) (hr : Room k X.A) (hg : Gl X x) (hm : X.mg x = some (.ref f)) (hk : PySem.W.keepIn X.K (.ref f) = true) (hb : Binds X.K fd ps []) (hx : Passes CX X E)
    (ha : PDA A X (e :: es) ms) (hdb : (x == ("__debug__" : Str)) = false := by decide) (he : starEach (e :: es) X.env = (false, eval e X.env) :: starEach es X.env := by rfl) (hpl : (backTo pos (starEach es X.env)).any (·.1) = false := by rfl) :
    PD A X (.Call (.Name x p) (e :: es) [] pos) (eN F ms) := by
  have := pd_callD (dds := []) hF (fun _ => .nil) Fo hr hg hm hk hb .nil hx ha hdb he hpl (p := p) (pos := pos)
  rw [app_nil] at this
  exact this
theorem pd_call0 {F : Fn} (hF : ∀ ds r, F ds = .ok r → ds.length = n) (Fo : FnOk X.prog X.w X.K X.mg X.base CX k f fd ps (spF X.K A F n)) (hr : Room k X.A) (hg : Gl X x) (hm : X.mg x = some (.ref f)) (hk : PySem.W.keepIn X.K (.ref f) = true) (hb : Binds X.K fd ps []) (hx : Passes CX X E)
    (hdb : (x == ("__debug__" : Str)) = false := by decide) : PD A X (.Call (.Name x p) [] [] pos) (eN F []) := PE.imp (pe_call0 Fo hr hg hm hk hb .nil hx hdb) fun σ H Q h => by
  obtain ⟨G, ρ, ds, ρ', s, e, z⟩ := n_use h
  cases e
  obtain ⟨G1, ds1, r1, s1, rs1, e1, k1⟩ := z [] G H (Nx.refl s) .nil
  exact ⟨by rw [show ([] ++ [] : List V) = [] from rfl, rs1.len]; exact hF _ _ e1, G1, ds1, r1, s1, rs1, e1, k1⟩
/-- lending slot i -/
theorem pd_callR {F : FnR} {jn : Nat} (Fo : FnOk X.prog X.w X.K X.mg X.base CX k f fd ps (spR X.K A F n jn)) (hj : jn = ms.length) (hn : n = ms.length + ms'.length + 1) (hr : Room k X.A) (hg : Gl X x) (hm : X.mg x = some (.ref f)) (hk : PySem.W.keepIn X.K (.ref f) = true) (hb : Binds X.K fd ps []) (hx : Passes CX X E)
    (ha : PA X (e :: es) (liftAR X.K A ms i ms')) (hdb : (x == ("__debug__" : Str)) = false := by decide) (he : starEach (e :: es) X.env = (false, eval e X.env) :: starEach es X.env := by rfl) (hpl : (backTo pos (starEach es X.env)).any (·.1) = false := by rfl) :
    PD A X (.Call (.Name x p) (e :: es) [] pos) (eCallR F ms i ms') := PE.imp (pe_call Fo hr hg hm hk hb .nil hx ha hdb he hpl) fun σ H Q h => by
  obtain ⟨G, ρ, r, ρ', s, e, kk⟩ := h
  obtain ⟨d0, e0, e⟩ := bind_ok e
  obtain ⟨⟨ds, ρ1⟩, e1, e⟩ := bind_ok e
  obtain ⟨⟨es', ρ2⟩, e2, e⟩ := bind_ok e
  obtain ⟨w, hw, _⟩ := look_at s e0
  refine ⟨G, ρ, ds, es', ρ1, ρ2, w, s, e1, e2, hw, fun vs ws G1 H1 n1 r1 r2 => ?_⟩
  dsimp only at e
  split at e
  · rename_i d hd
    obtain ⟨⟨r', d'⟩, e3, e⟩ := bind_ok e
    cases e
    obtain ⟨q, hq, gn, hh⟩ := n1.st.at_ hd
    rw [hw] at hq
    cases hq
    have hlen : ∀ {ms : List Ev} {ρ ρ' : Env} {ds : List D}, evs ms ρ = .ok (ds, ρ') → ds.length = ms.length := fun {ms} => by
      induction ms with
      | nil => intro ρ ρ' ds e; cases e; rfl
      | cons m ms ih =>
        intro ρ ρ' ds e
        obtain ⟨⟨d, ρ0⟩, e0, e⟩ := bind_ok e
        obtain ⟨⟨ds', ρ1'⟩, e3, e⟩ := bind_ok e
        cases e
        rw [List.length_cons, List.length_cons, ih e3]
    have lv : vs.length = jn := by rw [r1.len, hj, hlen e1]
    rw [List.append_nil]
    refine ⟨?_, by omega, G1, ds ++ es', d, q, r', d', n1.st.sub, ?_, ?_, gn, hh, e3, fun v G2 H2 x2 sb2 gn2 hh2 rn => ?_⟩
    · rw [List.length_append, List.length_cons, r1.len, r2.len, hlen e1, hlen e2, hn]; omega
    · rw [List.getElem?_append_right (by omega), lv]; simp
    · rw [List.eraseIdx_append_of_length_le (by omega), lv, Nat.sub_self]
      exact r1.append r2
    · have nl := n1.st.lent hd hw x2 sb2 gn2 hh2
      refine kk v G2 H2 (n1.trans nl) (later n1 ?_)
      have := rn.r n1.st
      unfold RepR at *
      split at this
      · rename_i q
        rw [if_pos q]
        obtain ⟨p, e, h1, h2, h3, h4⟩ := this
        exact ⟨p, e, h1, h2, fun ⟨i', z⟩ => h3 ⟨i', nl.own i' p z⟩, h4⟩
      · rename_i q
        rw [if_neg q]; exact this
  · cases e
/-- lending a new object -/
theorem pd_callT {F : FnR} {jn : Nat} (Fo : FnOk X.prog X.w X.K X.mg X.base CX k f fd ps (spR X.K A F n jn)) (hj : jn = ms.length) (hn : n = ms.length + 1) (hr : Room k X.A) (hg : Gl X x) (hm : X.mg x = some (.ref f)) (hk : PySem.W.keepIn X.K (.ref f) = true) (hb : Binds X.K fd ps []) (hx : Passes CX X E)
    (ha : PA X (e :: es) (liftAT X.K A ms me)) (hdb : (x == ("__debug__" : Str)) = false := by decide) (he : starEach (e :: es) X.env = (false, eval e X.env) :: starEach es X.env := by rfl) (hpl : (backTo pos (starEach es X.env)).any (·.1) = false := by rfl) :
    PD A X (.Call (.Name x p) (e :: es) [] pos) (eCallT F ms me) := PE.imp (pe_call Fo hr hg hm hk hb .nil hx ha hdb he hpl) fun σ H Q h => by
  obtain ⟨G, ρ, r, ρ', s, e, kk⟩ := h
  obtain ⟨⟨ds, ρ1⟩, e1, e⟩ := bind_ok e
  obtain ⟨⟨t, ρ2⟩, e2, e⟩ := bind_ok e
  refine ⟨G, ρ, ds, ρ1, t, ρ2, s, e1, e2, fun vs w G1 H1 n1 r1 rt => ?_⟩
  dsimp only at e
  split at e
  · rename_i ht
    obtain ⟨⟨r', d'⟩, e3, e⟩ := bind_ok e
    cases e
    unfold RepR at rt
    rw [if_pos ht] at rt
    obtain ⟨q, rfl, gn, hh, no, hq⟩ := rt
    have hlen : ∀ {ms : List Ev} {ρ ρ' : Env} {ds : List D}, evs ms ρ = .ok (ds, ρ') → ds.length = ms.length := fun {ms} => by
      induction ms with
      | nil => intro ρ ρ' ds e; cases e; rfl
      | cons m ms ih =>
        intro ρ ρ' ds e
        obtain ⟨⟨d, ρ0⟩, e0, e⟩ := bind_ok e
        obtain ⟨⟨ds', ρ1'⟩, e3, e⟩ := bind_ok e
        cases e
        rw [List.length_cons, List.length_cons, ih e3]
    have lv : vs.length = jn := by rw [r1.len, hj, hlen e1]
    rw [List.append_nil]
    refine ⟨?_, by omega, G1, ds, t.1, q, r', d', n1.st.sub, ?_, ?_, gn, hh, e3, fun v G2 H2 x2 sb2 gn2 hh2 rn => ?_⟩
    · rw [List.length_append, r1.len, hlen e1, hn]; rfl
    · rw [List.getElem?_append_right (by omega), lv]; simp
    · rw [List.eraseIdx_append_of_length_le (by omega), lv, Nat.sub_self]
      simp
      exact r1
    · have st2 := n1.st.lent0 no x2 sb2
      have nn : Nx X.K A σ G H ρ G2 H2 ρ' := ⟨n1.ext.trans x2 fun p z => .inr (z ▸ hq), st2, n1.own⟩
      refine kk v G2 H2 nn (later n1 (rn.r n1.st))
  · cases e
end
end DY

set_option Elab.async false
set_option linter.all false
set_option maxRecDepth 100000
set_option maxHeartbeats 4000000
namespace DY
open PySem L2 PySem.Spec PyProof.Rows
variable [Tb]
section
variable {X : Cx} {A : CT} {x m : Str} {pos pos' p apos : Pos} {i : Nat} {a e : Expr} {es : List Expr} {ma me : Ev} {ms ks : List Ev} {kws : List Keyword}
variable {CX : CXT} {k n : Nat} {f C : Addr} {fd : FuncData} {ps knm : List Str} {E : XK}
/-! ### C(..) -/
theorem make_use {K : PySem.W.Frag} {init : FnR} {c : Nat} {H : Hp} {Q : VK} {vs : List V} {G : Hp} {ds : List D} {r : Rv} (hc : c ∈ A.cs) (hl : vs.length + 1 = n) (s : Sub G H) (rs : Reps K A G vs ds) (e : mkObj c init ds = .ok r) (kk : ∀ v G' H', Nx0 G H G' H' → RepN K A H G' H' v r → Q v H') :
    ∀ x dx, H x = none → H dx = none → dx ≠ x → spR K A init n 0 (.ref x :: vs) (upd (upd H dx (.own x)) x (.ins (A.ad c) dx [])) (fun v H2 => v = .non ∧ Q (.ref x) H2) E := by
  intro y dx hy hdx hne
  obtain ⟨⟨r0, d'⟩, e1, e⟩ := bind_ok e
  dsimp only at e
  split at e
  · cases e
    have gno : ∀ q, H q = none → G q = none := fun q hq => by
      cases z : G q with
      | none => rfl
      | some u => obtain ⟨o, ho⟩ := s.ex z; rw [hq] at ho; cases ho
    have keepH : ∀ q o, H q = some o → upd (upd H dx (.own y)) y (.ins (A.ad c) dx []) q = some o := fun q o h => by rw [upd_ne (ne_of_none h hy), upd_ne (ne_of_none h hdx)]; exact h
    have s2 : Sub G (upd (upd H dx (.own y)) y (.ins (A.ad c) dx [])) := ⟨fun q o h => by
      rcases s q o h with h | ⟨z, ob, h⟩
      · exact .inl (keepH q o h)
      · exact .inr ⟨z, ob, keepH q _ h⟩, s.tb.ext keepH, s.nt, s.bs⟩
    refine ⟨by rw [List.length_cons]; exact hl, by omega, G, ds, .ins c [], y, (.non, false), d', s2, rfl, rs, gno y hy, ⟨dx, [], ?_, Nat.zero_le _, hc, .nil⟩, e1, fun v G' H' x' sb gn hh rn => ?_⟩
    · rw [upd_same, List.zip_nil_right]
    · cases (show Rep K A G' v .non from rn)
      refine ⟨rfl, ?_⟩
      obtain ⟨o, ho, rr⟩ := hh.frz gn
      have g2 : L2.Same G' (upd G' y o) := SL.Same.new gn
      refine kk (.ref y) (upd G' y o) H' ⟨⟨x'.gs.trans g2, fun q hq => ?_, fun q u h _ nt => x'.hs q u (keepH q u h) (ne_of_none h hy) nt, fun q h => x'.there q ?_⟩, ⟨fun q u h => ?_, sb.tb, sb.nt_upd hh.nt ho, sb.bs.trans g2⟩⟩ (RepR.of rr)
      · by_cases z : q = y
        · subst z; exact .inr (.inl hy)
        · rw [upd_ne z] at hq
          rcases x'.fr q hq with w | w | w
          · exact .inl w
          · refine .inr (.inl ?_)
            cases w2 : H q with
            | none => rfl
            | some u => rw [keepH q u w2] at w; cases w
          · exact absurd w z
      · cases w2 : H q with
        | none => exact absurd w2 h
        | some u => rw [keepH q u w2]; exact fun x => nomatch x
      · by_cases z : q = y
        · subst z; rw [upd_same] at h; cases h; exact .inl ho
        · rw [upd_ne z] at h; exact sb q u h
  · cases e
theorem pd_make {init : FnR} {c : Nat} {dvs : List V} {ds : List Value} {dds : List D} (hc : c ∈ A.cs) (hF : ∀ ds d r, init ds d = .ok r → ds.length + 1 = n) (hdd : ∀ G, Reps X.K A G dvs dds) (M : Mk X.K (A.ad c) f) (Fo : FnOk X.prog X.w X.K X.mg X.base CX k f fd ps (spR X.K A init n 0)) (hr : Room (k + 1) X.A) (hg : Gl X x) (hm : X.mg x = some (.ref (A.ad c))) (hb : Binds X.K fd ps ds) (hd : Vals dvs ds) (hx : Passes CX X E)
    (ha : PDA A X (e :: es) ms) (hdb : (x == ("__debug__" : Str)) = false := by decide) (he : starEach (e :: es) X.env = (false, eval e X.env) :: starEach es X.env := by rfl) (hpl : (backTo pos (starEach es X.env)).any (·.1) = false := by rfl) :
    PD A X (.Call (.Name x p) (e :: es) [] pos) (eN (fun xs => mkObj c init (xs ++ dds)) ms) := PE.imp (pe_make M Fo hr hg hm hb hd hx ha hdb he hpl) fun σ H Q h => by
  refine TA_mono (n_use h) fun vs H1 q => ?_
  obtain ⟨G, ds, r, s, rs, e, k⟩ := q
  have rr := rs.append (hdd G)
  refine make_use hc ?_ s rr e k
  obtain ⟨⟨r0, d'⟩, e1, _⟩ := bind_ok e
  rw [rr.len]; exact hF _ _ _ e1
/-! ### keywords -/
abbrev PDK (A : CT) (X : Cx) (kws : List Keyword) (ms : List Ev) : Prop := PK X kws (liftA X.K A ms)
theorem PK.imp {X : Cx} {e : List Keyword} {t t' : TA} (h : PK X e t) (k : ∀ σ H Q, t' σ H Q → t σ H Q) : PK X e t' := ⟨fun pos pins s σ H Q I q => h.run pos pins s σ H Q I (k σ H Q q)⟩
theorem pdk_nil : PDK A X [] [] := PK.imp pk_nil fun σ H Q h => by
  obtain ⟨G, ρ, ds, ρ', s, e, k⟩ := h
  cases e
  exact k [] G H (Nx.refl s) .nil
theorem pdk_cons {nm : Option Str} {kpos : Pos} (ha : PD A X a ma) (hr : PDK A X kws ms) : PDK A X (⟨nm, a, kpos⟩ :: kws) (ma :: ms) := PK.imp (pk_cons ha hr) fun _ _ _ => cons_use
/-- the values in the parameters' order, over V and over data -/
structure GV (gV : List V → List V → List V) (g : List D → List D → List D) : Prop where
  rel : ∀ {K : PySem.W.Frag} {A : CT} {G : Hp} {vs zs : List V} {ds es : List D}, Reps K A G vs ds → Reps K A G zs es → Reps K A G (gV vs zs) (g ds es)
theorem evs_len : ∀ {ms : List Ev} {ρ ρ' : Env} {ds : List D}, evs ms ρ = .ok (ds, ρ') → ds.length = ms.length := fun {ms} => by
  induction ms with
  | nil => intro ρ ρ' ds e; cases e; rfl
  | cons m ms ih =>
    intro ρ ρ' ds e
    obtain ⟨⟨d, ρ0⟩, e0, e⟩ := bind_ok e
    obtain ⟨⟨ds', ρ1'⟩, e3, e⟩ := bind_ok e
    cases e
    rw [List.length_cons, List.length_cons, ih e3]
/-! ### o.m(..) -/
/-! ### own operators -/
theorem isC_ok {c : Nat} {d : D} (h : isC c d = true) : ∃ fs, d = .ins c fs := by
  unfold isC at h
  split at h
  · have := of_decide_eq_true h
    subst this
    exact ⟨_, rfl⟩
  · cases h
theorem sel_ok {g : D → D → Bool} {h1 : D → D → R Rv} {x y : D} {r : Rv} (e : sel g h1 no2 x y = .ok r) : g x y = true ∧ h1 x y = .ok r := by
  unfold sel at e
  by_cases q : g x y = true
  · rw [if_pos q] at e; exact ⟨q, e⟩
  · rw [if_neg q] at e; cases e
theorem sp2 {K : PySem.W.Frag} {F : Fn} {G H : Hp} {Q : VK} {v w : V} {d e : D} {r : Rv} (s : Sub G H) (r1 : Rep K A G v d) (r2 : Rep K A G w e) (h : F [d, e] = .ok r) (k : ∀ v G' H', Nx0 G H G' H' → RepN K A H G' H' v r → Q v H') : spF K A F 2 [v, w] H Q E := ⟨rfl, G, _, r, s, .cons r1 (.cons r2 .nil), h, k⟩
theorem hasTy_ok {d : D} (h : hasTy d = true) : ∃ t, tyD A d = some t := by
  cases d <;> first | exact ⟨_, rfl⟩ | cases h
theorem nf_D {K : PySem.W.Frag} {G : Hp} {v : V} {d : D} {t : Value} {c : Nat} (kd : KD K A) (hc : c ∈ A.cs) (r : Rep K A G v d) (e : tyD A d = some t) : PySem.W.notFirst K (A.ad c) t = true := by
  have nf := (kd.cf _ hc).nf
  cases r with
  | ins h l c' q => cases e; exact kd.nn _ hc _ c'
  | _ => first | (cases e; done) | (cases e; exact nf _ (by simp))
theorem o_neC {F : Fn} {c : Nat} (kd : KD X.K A) (hc : c ∈ A.cs) (o : SL.OwnOp X.K (A.ad c) f "__eq__") (hne : PySem.W.findIn X.K (.ref (A.ad c)) "__ne__" = some (some (.builtin "object.__ne__"))) (hob : PySem.W.subIn X.K (.ref (A.ad c)) (.type "object") = some true) (Fo : FnOk X.prog X.w X.K X.mg X.base CX k f fd ps (spF X.K A F 2)) (hr : Room (k + 1) X.A) (hb : Binds X.K fd ps []) (hx : Passes CX X E) :
    OpR X (compareOp .NotEq) (rD X.K A (neOf (sel (cany c) (fun x y => F [x, y]) no2))) := by
  intro pins s σ H x y v u Q I rx ry h
  obtain ⟨G, d1, d2, r, sb, r1, r2, e, kk⟩ := h
  obtain ⟨⟨r0, fr⟩, e1, e⟩ := bind_ok e
  obtain ⟨b, e2, e⟩ := bind_ok e
  cases e
  obtain ⟨q, e1⟩ := sel_ok e1
  unfold cany at q
  rw [Bool.and_eq_true] at q
  obtain ⟨f1, rfl⟩ := isC_ok q.1
  obtain ⟨t, ht⟩ := hasTy_ok (A := A) q.2
  obtain rfl := isB_ok e2
  cases id r1 with
  | ins hh =>
    refine SL.op_neOwn o hne hob Fo hr hb hx pins s σ H _ _ v u Q I rx ry ⟨_, _, _, t, rfl, sb.ins hh, rep_ty kd sb r2 ht, nf_D kd hc r2 ht, sp2 sb r1 r2 e1 fun v' G' H' n0 rn => ?_⟩
    have : fr = false := by
      cases fr with
      | false => rfl
      | true => obtain ⟨p, _, _, z, _⟩ := rn; exact z.elim
    subst this
    cases (show Rep X.K A G' v' (.bl b) from rn)
    exact ⟨b, rfl, kk _ G' H' n0 (RepR.of (.bl _))⟩
theorem neOf_sel {g : D → D → Bool} {h1 h2 : D → D → R Rv} (a : OpR X (compareOp .NotEq) (rD X.K A (neOf (sel g h1 no2)))) (b : OpR X (compareOp .NotEq) (rD X.K A (neOf h2))) : OpR X (compareOp .NotEq) (rD X.K A (neOf (sel g h1 h2))) := by
  intro pins s σ H x y v u Q I rx ry h
  obtain ⟨G, d1, d2, r, sb, r1, r2, e, k⟩ := h
  unfold neOf sel at e
  by_cases q : g d1 d2 = true
  · rw [if_pos q] at e
    exact a pins s σ H x y v u Q I rx ry ⟨G, d1, d2, r, sb, r1, r2, by unfold neOf sel; rw [if_pos q]; exact e, k⟩
  · rw [if_neg q] at e
    exact b pins s σ H x y v u Q I rx ry ⟨G, d1, d2, r, sb, r1, r2, e, k⟩
end
end DY

set_option Elab.async false
set_option linter.all false
set_option maxRecDepth 100000
set_option maxHeartbeats 4000000
namespace DY
open PySem L2 PySem.Spec PyProof.Rows
variable [Tb]
/-! ### targets -/
section
variable (K : PySem.W.Frag) (A : CT)
def liftG (ws : List Nat) (g : Tg) : TG := fun v σ H Q => ∃ G ρ d ρ', St K A σ G H ρ ∧ Rep K A G v d ∧ g d ρ = .ok ρ' ∧ ∀ σ', St K A σ' G H ρ' → (∀ i p, Own σ' ρ' i p → Own σ ρ i p) → σ'.length = σ.length → (∀ i, i ∉ ws → σ'[i]? = σ[i]?) → Q σ' H
def liftGs (ws : List Nat) (gs : List Tg) : TGs := fun vs σ H Q => ∃ G ρ ds ρ', St K A σ G H ρ ∧ Reps K A G vs ds ∧ gGo gs ds ρ = .ok ρ' ∧ ∀ σ', St K A σ' G H ρ' → (∀ i p, Own σ' ρ' i p → Own σ ρ i p) → σ'.length = σ.length → (∀ i, i ∉ ws → σ'[i]? = σ[i]?) → Q σ' H
end
section
variable {X : Cx} {A : CT} {pos : Pos}
theorem PG.imp {X : Cx} {e : Expr} {t t' : TG} (h : PG X e t) (k : ∀ v σ H Q, t' v σ H Q → t v σ H Q) : PG X e t' := ⟨fun pins s σ H v u Q I r q => h.run pins s σ H v u Q I r (k v σ H Q q)⟩
theorem PGs.imp {X : Cx} {e : List Expr} {t t' : TGs} (h : PGs X e t) (k : ∀ v σ H Q, t' v σ H Q → t v σ H Q) : PGs X e t' := ⟨fun pins s σ H v u Q I r q => h.run pins s σ H v u Q I r (k v σ H Q q)⟩
theorem pdg_name {i : Nat} {x : Str} (h : PG X (.Name x pos) (gName i)) : PG X (.Name x pos) (liftG X.K A [i] (gN i)) := PG.imp h fun v σ H Q q => by
  obtain ⟨G, ρ, d, ρ', s, r, e, k⟩ := q
  cases e
  exact k _ (s.store r).1 (fun k p z => ((s.store r).2 k p z).1) (List.length_set ..) fun k hk => List.getElem?_set_ne fun z => hk (by simp [z])
theorem pdgs_nil : PGs X [] (liftGs X.K A [] []) := PGs.imp pgs_nil fun v σ H Q q => by
  obtain ⟨G, ρ, d, ρ', s, r, e, k⟩ := q
  unfold gGo at e
  split at e
  · cases e; cases r; exact ⟨rfl, k σ s (fun _ _ z => z) rfl fun _ _ => rfl⟩
  · rename_i h; cases h
  · cases e
theorem pdgs_cons {e : Expr} {es : List Expr} {g : Tg} {gs : List Tg} {ws ws' : List Nat} (h1 : PG X e (liftG X.K A ws g)) (h2 : PGs X es (liftGs X.K A ws' gs))
    (hs : (assignEach (e :: es) X.env).map (·.2) = assign e X.env :: (assignEach es X.env).map (·.2) := by rfl) : PGs X (e :: es) (liftGs X.K A (ws ++ ws') (g :: gs)) := PGs.imp (pgs_cons h1 h2 hs) fun v σ H Q q => by
  obtain ⟨G, ρ, ds, ρ', s, r, e, k⟩ := q
  cases ds with
  | nil => unfold gGo at e; cases e
  | cons d ds =>
    obtain ⟨ρ1, e1, e⟩ := bind_ok e
    cases r with
    | cons r1 r2 =>
      refine ⟨_, _, rfl, G, ρ, d, ρ1, s, r1, e1, fun σ1 s1 o1 l1 w1 => ⟨G, ρ1, ds, ρ', s1, r2, e, fun σ2 s2 o2 l2 w2 => k σ2 s2 (fun i p z => o1 i p (o2 i p z)) (l2.trans l1) fun i hi => ?_⟩⟩
      rw [w2 i fun z => hi (List.mem_append_right _ z), w1 i fun z => hi (List.mem_append_left _ z)]
theorem gGo_len : ∀ {gs : List Tg} {ds : List D} {ρ ρ' : Env}, gGo gs ds ρ = .ok ρ' → ds.length = gs.length
  | [], [], _, _, _ => rfl
  | [], _ :: _, _, _, e => by unfold gGo at e; cases e
  | _ :: _, [], _, _, e => by unfold gGo at e; cases e
  | g :: gs, d :: ds, ρ, ρ', e => by
    obtain ⟨ρ1, e1, e⟩ := bind_ok e
    rw [List.length_cons, List.length_cons, gGo_len e]
theorem pdg_tup {es : List Expr} {k : Nat} {gs : List Tg} {ws : List Nat} (hc : X.calm = true) (h : PGs X es (liftGs X.K A ws gs))
    (hn : (assignEach es X.env).length = gs.length := by rfl) (hst : (assignEach es X.env).findIdx? (·.1) = none := by rfl) : PG X (.Tuple es k pos) (liftG X.K A ws (gT gs)) := PG.imp (pg_tup hc h hn hst) fun v σ H Q q => by
  obtain ⟨G, ρ, d, ρ', s, r, e, k⟩ := q
  unfold gT at e
  split at e
  · obtain ⟨p, vs, rfl, h1, q1⟩ := r.sqT s.sub
    exact ⟨p, vs, rfl, h1, by rw [q1.len]; exact gGo_len e, G, ρ, _, ρ', s, q1, e, k⟩
  · obtain ⟨p, vs, rfl, h1, q1⟩ := r.sqK s.sub
    exact ⟨p, vs, rfl, SqT.of h1, by rw [q1.len]; exact gGo_len e, G, ρ, _, ρ', s, q1, e, k⟩
  · cases e
end
/-! ### what is walked -/
section
variable (K : PySem.W.Frag) (A : CT)
def WalkD (Φ : Hp → Hp → Prop) (J : It) (ds : List D) : Prop := ∃ (Gd : Hp → Prop) (Y : Nat → Hp → V → Hp → Prop), Walk J ds.length Gd Y ∧ (∀ G H, Φ G H → Gd H) ∧
  ∀ i G H x H', i < ds.length → Φ G H → Y i H x H' → ∃ G2 d, Nx0 G H G2 H' ∧ ds[i]? = some d ∧ Rep K A G2 x d
/-- what is shared stays -/
def Keep (G0 : Hp) (G H : Hp) : Prop := L2.Same G0 G ∧ Sub G H
def liftI (m : Iv) : TI := fun σ H R => ∃ G ρ ds ρ', St K A σ G H ρ ∧ m ρ = .ok (ds, ρ') ∧ ∀ J G' H', Nx K A σ G H ρ G' H' ρ' → WalkD K A (Keep G') J ds → R J H'
end
abbrev PDI (A : CT) (X : Cx) (tg e : Expr) (m : Iv) : Prop := PI X tg e (liftI X.K A m)
section
variable {K : PySem.W.Frag} {A : CT} {G G' : Hp} {X : Cx} {tg e : Expr} {me : Ev} {p pos : Pos}
theorem walkD_at {J : It} {ds : List D} {vs : List V} {Gd : Hp → Prop} (w : Walk J vs.length Gd (YAt vs)) (hg : ∀ G H, L2.Same G' G → Sub G H → Gd H) (r : Reps K A G' vs ds) : WalkD K A (Keep G') J ds := by
  refine ⟨Gd, YAt vs, by rw [← r.len]; exact w, fun G H k => hg G H k.1 k.2, fun i G H x H' hi ⟨g, s⟩ y => ?_⟩
  obtain ⟨rfl, hx⟩ := y
  obtain ⟨d, h1, h2⟩ := r.get hx
  exact ⟨G, d, Nx0.refl s, h1, h2.mono g⟩
theorem pdi_val (he : PD A X e me) : PDI A X tg e (iVal me) := ⟨fun pins s σ H R I h => by
  obtain ⟨G, ρ, ds, ρ', st, e, k⟩ := h
  obtain ⟨⟨x, ρ1⟩, e1, e⟩ := bind_ok e
  obtain ⟨ds', e2, e⟩ := bind_ok e
  cases e
  unfold items at e2
  split at e2
  · cases e2
    refine (pi_list he).run pins s σ H R I (use_val st e1 fun v G1 H1 n r => ?_)
    cases r with | lst h q =>
    exact ⟨_, rfl, ⟨_, SqL.of (n.st.sub.lst h)⟩, k _ G1 H1 n (walkD_at walk_list (fun G H g s => SqL.of (s.lst (g _ _ h))) q)⟩
  · cases e2
    refine (pi_list he).run pins s σ H R I (use_val st e1 fun v G1 H1 n r => ?_)
    cases r with | fls h q =>
    exact ⟨_, rfl, ⟨_, n.st.sub.sqL h⟩, k _ G1 H1 n (walkD_at walk_list (fun G H g s => s.sqL (sqL_same g h)) q)⟩
  · cases e2
    refine (pi_tup he).run pins s σ H R I (use_val st e1 fun v G1 H1 n r => ?_)
    cases r with
    | tup nd h q => exact ⟨_, rfl, ⟨_, .inl (.inr ⟨_, n.st.sub.frt h⟩)⟩, k _ G1 H1 n (walkD_at walk_tup (fun G H g s => .inl (.inr ⟨_, s.frt (g _ _ h)⟩)) q)⟩
    | emp a b c d => exact ⟨_, rfl, ⟨_, sqT_emp a b d⟩, k _ G1 H1 n (walkD_at (vs := []) walk_tup (fun G H g s => sqT_emp a b d) .nil)⟩
  · rename_i l
    cases e2
    refine (pi_str he).run pins s σ H R I (use_val st e1 fun v G1 H1 n r => ?_)
    cases r
    refine ⟨_, rfl, k _ G1 H1 n ⟨_, _, by rw [List.length_map, show l.length = (S l).cps.size by simp [S]]; exact walk_str, fun _ _ _ => trivial, fun i G H x H' hi ⟨g, s⟩ y => ?_⟩⟩
    obtain ⟨rfl, c, hc, rfl⟩ := y
    have hc' : l[i]? = some c := by
      have : l.toArray[i]? = some c := hc
      simpa using this
    exact ⟨G, .str [c], Nx0.refl s, by rw [List.getElem?_map, hc']; rfl, .str [c]⟩
  · cases e2⟩
theorem rng_get : ∀ {n : Nat} {lo : Int} {i : Nat}, i < n → (rng lo n)[i]? = some (.int (lo + i))
  | 0, _, _, h => by omega
  | n + 1, lo, 0, _ => by show some (D.int lo) = _; simp
  | n + 1, lo, i + 1, h => by
    show (rng (lo + 1) n)[i]? = _
    rw [rng_get (by omega)]
    congr 2
    omega
theorem rng_len : ∀ {n : Nat} {lo : Int}, (rng lo n).length = n
  | 0, _ => rfl
  | n + 1, lo => by show (rng (lo + 1) n).length + 1 = _; rw [rng_len]
theorem walkD_rng {lo : Int} {n : Nat} : WalkD K A (Keep G) (Itr lo n) (rng lo n) := ⟨_, _, by rw [rng_len]; exact walk_range, fun _ _ _ => trivial, fun i G H x H' hi ⟨g, s⟩ y => by
  obtain ⟨rfl, rfl⟩ := y
  rw [rng_len] at hi
  exact ⟨G, _, Nx0.refl s, rng_get hi, .int _⟩⟩
theorem pdi_range1 {a : Expr} {ma : Ev} (hg : Gl X "range") (hm : X.mg "range" = none) (ha : PDA A X [a] [ma]) (hs : starEach [a] X.env = [(false, eval a X.env)] := by rfl) : PDI A X tg (.Call (.Name "range" p) [a] [] pos) (iRange [ma]) := ⟨fun pins s σ H R I h => (pi_range1 hg hm ha hs).run pins s σ H R I (by
  obtain ⟨G, ρ, ds, ρ', st, e, k⟩ := h
  obtain ⟨⟨xs, ρ1⟩, e1, e⟩ := bind_ok e
  refine ⟨G, ρ, xs, ρ1, st, e1, fun vs G1 H1 n r => ?_⟩
  dsimp only at e
  split at e
  · split at e
    · rename_i q
      cases e
      obtain ⟨v, rfl, rq⟩ := r.inv1
      cases rq
      exact ⟨_, rfl, q.1, q.2, k _ G1 H1 n walkD_rng⟩
    · cases e
  · have := evs_len e1; cases this
  · cases e)⟩
theorem pdi_range2 {a b : Expr} {ma mb : Ev} (hg : Gl X "range") (hm : X.mg "range" = none) (ha : PDA A X [a, b] [ma, mb]) (hs : starEach [a, b] X.env = [(false, eval a X.env), (false, eval b X.env)] := by rfl) (hs2 : starEach [b] X.env = [(false, eval b X.env)] := by rfl) : PDI A X tg (.Call (.Name "range" p) [a, b] [] pos) (iRange [ma, mb]) := ⟨fun pins s σ H R I h => (pi_range2 hg hm ha hs hs2).run pins s σ H R I (by
  obtain ⟨G, ρ, ds, ρ', st, e, k⟩ := h
  obtain ⟨⟨xs, ρ1⟩, e1, e⟩ := bind_ok e
  refine ⟨G, ρ, xs, ρ1, st, e1, fun vs G1 H1 n r => ?_⟩
  dsimp only at e
  split at e
  · have := evs_len e1; cases this
  · split at e
    · rename_i q
      cases e
      obtain ⟨v, w, rfl, r1, r2⟩ := r.inv2
      cases r1; cases r2
      exact ⟨_, _, rfl, ⟨q.1.1, q.1.2, q.2.1, q.2.2⟩, k _ G1 H1 n walkD_rng⟩
    · cases e
  · cases e)⟩
end
/-! ### for, while -/
section
variable {K : PySem.W.Frag} {A : CT} {j : Option Nat} {B : Bs} {G G' G1 G2 H H' H1 H2 : Hp} {σ σ' : L2.St} {ρ ρ1 ρ2 ρ' : Env}
theorem StF.rebase (s : StF K A j B σ G H ρ) : StF K A j { B with G := G } σ G H ρ := ⟨s.st, ⟨fun _ _ z => z, fun _ z => .inl z, s.ext.hs, s.ext.there⟩, s.own⟩
theorem StF.unbase (s : StF K A j B σ G1 H1 ρ1) (s' : StF K A j { B with G := G1 } σ' G' H' ρ') : StF K A j B σ' G' H' ρ' :=
  ⟨s'.st, ⟨s.ext.gs.trans s'.ext.gs, fun p z => (s'.ext.fr p z).elim (fun w => s.ext.fr p w) .inr, s'.ext.hs, s'.ext.there⟩, s'.own⟩
theorem forGo_cons {g : Tg} {body : Sv} {d : D} {ds : List D} {o : Out} (e : forGo g body (d :: ds) ρ = .ok (o, ρ')) : ∃ ρa ob ρb, g d ρ = .ok ρa ∧ body ρa = .ok (ob, ρb) ∧ ((ob = .nx ∨ ob = .ct) ∧ forGo g body ds ρb = .ok (o, ρ') ∨ (ob = .bk ∧ o = .nx ∧ ρ' = ρb) ∨ ∃ r, ob = .rt r ∧ o = .rt r ∧ ρ' = ρb) := by
  obtain ⟨ρa, e1, e⟩ := bind_ok e
  obtain ⟨⟨ob, ρb⟩, e2, e⟩ := bind_ok e
  refine ⟨ρa, ob, ρb, e1, e2, ?_⟩
  cases ob with
  | nx => exact .inl ⟨.inl rfl, e⟩
  | ct => exact .inl ⟨.inr rfl, e⟩
  | bk => cases e; exact .inr (.inl ⟨rfl, rfl, rfl⟩)
  | rt r => cases e; exact .inr (.inr ⟨r, rfl, rfl, rfl⟩)
theorem for_main {Φ : Hp → Hp → Prop} {J : It} {ds : List D} {ws : List Nat} {g : Tg} {body : Sv} {D : Ends} {o : Out} (s1 : StF K A j B σ G1 H1 ρ1) (wd : WalkD K A Φ J ds) (hΦ : ∀ σ' G' H' ρ', StF K A j { B with G := G1 } σ' G' H' ρ' → Φ G' H') (e : forGo g body ds ρ1 = .ok (o, ρ')) (k : SOut K A j B D o ρ') :
    ∃ W : Nat → Nat → L2.St → Hp → Prop, (∃ m, W 0 m σ H1) ∧ ∀ i m σ H, W i m σ H →
      (J.stop i H ∧ D.nx σ H) ∨ (J.go i H ∧ ∃ N : L2.St → Hp → Prop, (∀ σ' H', N σ' H' → ∃ m', m' < m ∧ W (i + 1) m' σ' H') ∧ ∀ x H', J.yld i H x H' → liftG K A ws g x σ H' fun σ2 H2 => liftS K A j body { D with nx := N, ct := N, bk := D.nx } σ2 H2) := by
  obtain ⟨Gd, Y, w, hG, hY⟩ := wd
  refine for_it w (fun i σ' H' => ∃ G' ρi, StF K A j { B with G := G1 } σ' G' H' ρi ∧ forGo g body (ds.drop i) ρi = .ok (o, ρ')) ⟨G1, ρ1, s1.rebase, e⟩ ?_ ?_ ?_
  · rintro i σ' H' _ ⟨G', ρi, s', _⟩
    exact hG G' H' (hΦ _ _ _ _ s')
  · rintro i x σ' H2 H3 hi ⟨G', ρi, s', e'⟩ y
    obtain ⟨G2, d, n0, hd, rx⟩ := hY i G' H2 x H3 hi (hΦ _ _ _ _ s') y
    have s2 := s'.step (s'.st.nx0 n0)
    rw [List.drop_eq_getElem_cons hi, (List.getElem?_eq_some_iff.mp hd).2] at e'
    obtain ⟨ρa, ob, ρb, ea, eb, ec⟩ := forGo_cons e'
    refine ⟨G2, ρi, d, ρa, s2.st, rx, ea, fun σ3 st3 ow3 _ _ => ⟨{ B with G := G1 }, G2, ρa, ob, ρb, ⟨st3, s2.ext, fun i p z => s2.own i p (ow3 i p z)⟩, eb, ?_⟩⟩
    rcases ec with ⟨hob, ec⟩ | ⟨rfl, rfl, rfl⟩ | ⟨r, rfl, rfl, rfl⟩
    · rcases hob with rfl | rfl
      · exact fun σ4 G4 H4 s4 => ⟨G4, ρb, s4, ec⟩
      · exact fun σ4 G4 H4 s4 => ⟨G4, ρb, s4, ec⟩
    · exact fun σ4 G4 H4 s4 => k σ4 G4 H4 (s1.unbase s4)
    · exact fun v σ4 G4 H4 s4 hr => k v σ4 G4 H4 (s1.unbase s4) hr
  · rintro σ' H' ⟨G', ρi, s', e'⟩
    rw [List.drop_length] at e'
    cases e'
    exact k σ' G' H' (s1.unbase s')
theorem for_use {it : Iv} {ws : List Nat} {g : Tg} {body : Sv} {D : Ends} (h : liftS K A j (sFor it g body) D σ H) : tFor (liftI K A it) (liftG K A ws g) (liftS K A j body) D σ H := by
  obtain ⟨B, G, ρ, o, ρ', s, e, k⟩ := h
  obtain ⟨⟨ds, ρ1⟩, e1, e⟩ := bind_ok e
  exact ⟨G, ρ, ds, ρ1, s.st, e1, fun J G1 H1 n wd => for_main (s.step n) wd (fun _ _ _ _ s' => ⟨s'.ext.gs, s'.st.sub⟩) e k⟩
end
section
variable {X : Cx} {A : CT} {j : Option Nat} {tg iter c : Expr} {body : List Stmt} {m : Sv} {mi : Iv} {g : Tg} {ws : List Nat} {mc : Ev} {pos : Pos}
theorem pds_for (hp : PassesOwn (model X.prog X.w) X.A X.env X.xe) (hc : X.calm = true) (hi : PDI A X tg iter mi) (hg : PG X tg (liftG X.K A ws g)) (hb : PDSs A j X body m)
    (hs : ∀ x, foldedSetIterable iter X.env x = pure x := by intro _; rfl) : PDS A j X (.For tg iter body [] pos) (sFor mi g m) := PS.imp (ps_for hp hc hi hg hb hs) fun D σ H => for_use
end
end DY

set_option Elab.async false
set_option linter.all false
set_option maxRecDepth 100000
set_option maxHeartbeats 4000000
/-! ### comprehensions -/
namespace DY
open PySem L2 PySem.Spec PyProof.Rows
variable [Tb]
section
variable {K : PySem.W.Frag} {A : CT} {G G' G1 G2 H H' H1 H2 : Hp} {σ σ' σ2 : L2.St} {ρ ρ1 ρ2 ρ' : Env}
theorem St.un1 {i : Nat} (s : St K A σ G H ρ) : St K A (σ.set i none) G H (ρ.set i .un) ∧ ∀ k p, Own (σ.set i none) (ρ.set i .un) k p → Own σ ρ k p := by
  have ow : ∀ k p, Own (σ.set i none) (ρ.set i .un) k p → Own σ ρ k p := fun k p ⟨⟨d, h1⟩, h2⟩ => by
    by_cases e : i = k
    · subst e
      rw [List.getElem?_set_self'] at h1
      cases q : ρ[i]? with
      | none => rw [q] at h1; cases h1
      | some x => rw [q] at h1; cases (Option.some.inj h1)
    · rw [List.getElem?_set_ne e] at h1 h2
      exact ⟨⟨d, h1⟩, h2⟩
  refine ⟨⟨s.sub, by rw [List.length_set, List.length_set]; exact s.len, fun k z hz => ?_, fun a b p ha hb => s.dist a b p (ow a p ha) (ow b p hb)⟩, ow⟩
  by_cases e : i = k
  · subst e
    rw [List.getElem?_set_self'] at hz
    cases q : ρ[i]? with
    | none => rw [q] at hz; cases hz
    | some x => rw [q] at hz; cases (Option.some.inj hz); trivial
  · rw [List.getElem?_set_ne e] at hz
    have := s.slot k z hz
    rw [List.getD_eq_getElem?_getD, List.getElem?_set_ne e, ← List.getD_eq_getElem?_getD]
    exact this
theorem St.wipe : ∀ (vs : List Nat) {σ : L2.St} {ρ : Env}, St K A σ G H ρ → St K A (L2.wipe σ vs) G H (wipeS ρ vs) ∧ ∀ k p, Own (L2.wipe σ vs) (wipeS ρ vs) k p → Own σ ρ k p
  | [], _, _, s => ⟨s, fun _ _ z => z⟩
  | v :: vs, σ, ρ, s => by
    obtain ⟨s1, o1⟩ := St.wipe vs s
    obtain ⟨s2, o2⟩ := s1.un1 (i := v)
    exact ⟨s2, fun k p z => o1 k p (o2 k p z)⟩
theorem wipe_out : ∀ {vs : List Nat} {k : Nat}, k ∉ vs → (L2.wipe σ vs)[k]? = σ[k]?
  | [], _, _ => rfl
  | v :: vs, k, h => by
    show ((L2.wipe σ vs).set v none)[k]? = _
    rw [List.getElem?_set_ne fun z => h (by simp [z])]
    exact wipe_out fun z => h (List.mem_cons_of_mem _ z)
theorem wipe_in : ∀ {vs : List Nat} {k : Nat}, k ∈ vs → k < σ.length → (L2.wipe σ vs)[k]? = some none
  | v :: vs, k, h, hk => by
    show ((L2.wipe σ vs).set v none)[k]? = _
    by_cases e : v = k
    · subst e; rw [List.getElem?_set_self (by rw [wipe_length]; exact hk)]
    · rw [List.getElem?_set_ne e]
      exact wipe_in ((List.mem_cons.mp h).resolve_left fun z => e z.symm) hk
theorem wipeS_len : ∀ {vs : List Nat}, (wipeS ρ vs).length = ρ.length
  | [] => rfl
  | v :: vs => by show ((wipeS ρ vs).set v .un).length = _; rw [List.length_set, wipeS_len]
theorem wipeS_out : ∀ {vs : List Nat} {k : Nat}, k ∉ vs → (wipeS ρ vs)[k]? = ρ[k]?
  | [], _, _ => rfl
  | v :: vs, k, h => by
    show ((wipeS ρ vs).set v .un)[k]? = _
    rw [List.getElem?_set_ne fun z => h (by simp [z])]
    exact wipeS_out fun z => h (List.mem_cons_of_mem _ z)
theorem backS_len : ∀ {vs : List Nat}, (backS ρ1 ρ vs).length = ρ.length
  | [] => rfl
  | v :: vs => by show ((backS ρ1 ρ vs).set v _).length = _; rw [List.length_set, backS_len]
theorem backS_out : ∀ {vs : List Nat} {k : Nat}, k ∉ vs → (backS ρ1 ρ vs)[k]? = ρ[k]?
  | [], _, _ => rfl
  | v :: vs, k, h => by
    show ((backS ρ1 ρ vs).set v _)[k]? = _
    rw [List.getElem?_set_ne fun z => h (by simp [z])]
    exact backS_out fun z => h (List.mem_cons_of_mem _ z)
theorem backS_in : ∀ {vs : List Nat} {k : Nat} {z : Slot}, k ∈ vs → (backS ρ1 ρ vs)[k]? = some z → z = ρ1.getD k .un
  | v :: vs, k, z, h, hz => by
    have hz : ((backS ρ1 ρ vs).set v (ρ1.getD v .un))[k]? = some z := hz
    by_cases e : v = k
    · subst e
      rw [List.getElem?_set_self'] at hz
      cases q : (backS ρ1 ρ vs)[v]? with
      | none => rw [q] at hz; cases hz
      | some x => rw [q] at hz; exact (Option.some.inj hz).symm
    · rw [List.getElem?_set_ne e] at hz
      exact backS_in ((List.mem_cons.mp h).resolve_left fun z => e z.symm) hz
theorem wipe_eq {vs : List Nat} (hl : σ2.length = σ.length) (h : ∀ i, i ∉ vs → σ2[i]? = (L2.wipe σ vs)[i]?) : L2.wipe σ2 vs = L2.wipe σ vs := by
  refine List.ext_getElem? fun k => ?_
  by_cases e : k ∈ vs
  · by_cases hk : k < σ.length
    · rw [wipe_in e (by rw [hl]; exact hk), wipe_in e hk]
    · rw [List.getElem?_eq_none (by rw [wipe_length, hl]; omega), List.getElem?_eq_none (by rw [wipe_length]; omega)]
  · rw [wipe_out e, h k e]
theorem noOw_ok {vs : List Nat} (h : noOw ρ vs = true) {k : Nat} (hk : k ∈ vs) : ∃ z, ρ[k]? = some z ∧ ∀ d, z ≠ .ow d := by
  have := List.all_eq_true.mp h k hk
  cases q : ρ[k]? with
  | none => rw [q] at this; cases this
  | some z =>
    rw [q] at this
    refine ⟨z, rfl, fun d e => ?_⟩
    subst e; cases this
/-- a pending new object -/
theorem pend {p : Addr} {d : D} (no : ¬ OwnS σ ρ p) (g : G p = none) (h : Has K A G H p d) (n : Nx K A σ G H ρ G' H' ρ') : G' p = none ∧ Has K A G' H' p d := by
  refine ⟨?_, h.mono n.gs fun o z nt => n.ext.hs p o z no nt⟩
  cases z : G' p with
  | none => rfl
  | some u =>
    rcases n.ext.fr p (by rw [z]; exact fun x => nomatch x) with z | z | z
    · exact absurd g z
    · obtain ⟨o, ho⟩ := h.ex; rw [ho] at z; cases z
    · exact absurd z no
theorem pend0 {p : Addr} {d : D} (g : G p = none) (h : Has K A G H p d) (n : Nx0 G H G' H') : G' p = none ∧ Has K A G' H' p d := by
  refine ⟨?_, h.mono n.ext.gs fun o z nt => n.ext.hs p o z id nt⟩
  cases z : G' p with
  | none => rfl
  | some u =>
    rcases n.ext.fr p (by rw [z]; exact fun x => nomatch x) with z | z | z
    · exact absurd g z
    · obtain ⟨o, ho⟩ := h.ex; rw [ho] at z; cases z
    · exact z.elim
theorem St.updP {p : Addr} {o : HO} (s : St K A σ G H ρ) (g : G p = none) (no : ¬ OwnS σ ρ p) (tb : LamX.Tabs Tb.T (upd H p o)) : St K A σ G (upd H p o) ρ := by
  refine ⟨⟨fun q u z => ?_, tb, s.sub.nt, s.sub.bs⟩, s.len, fun k z hz => ?_, s.dist⟩
  · have ne : q ≠ p := fun e => by subst e; rw [g] at z; cases z
    rw [upd_ne ne]; exact s.sub q u z
  · have q := s.slot k z hz
    cases z with
    | un => trivial
    | sh d => exact q
    | ow d =>
      obtain ⟨p2, e1, n1, h1⟩ := q
      have ne : p2 ≠ p := fun z => no ⟨k, ⟨d, hz⟩, z ▸ getD_some e1⟩
      exact ⟨p2, e1, n1, h1.mono (fun _ _ z => z) fun u z _ => by rw [upd_ne ne]; exact z⟩
variable (K A) in
/-- while a comprehension runs: its new object stands at P and bears d -/
structure LI (σ : L2.St) (G1 H1 : Hp) (ρ1 : Env) (vs : List Nat) (P : Addr) (G H : Hp) (ρi : Env) (d : D) : Prop where
  ext : Ext (OwnS σ ρ1) G1 H1 G H
  st : St K A (L2.wipe σ vs) G H (wipeS ρi vs)
  own : ∀ k p, Own (L2.wipe σ vs) (wipeS ρi vs) k p → Own σ ρ1 k p
  gP : G P = none
  hP : Has K A G H P d
variable {vs : List Nat} {P : Addr} {d : D} {ρi : Env}
theorem LI.no (l : LI K A σ G1 H1 ρ1 vs P G H ρi d) (s1 : St K A σ G1 H1 ρ1) (hP : H1 P = none) : ∀ k, ¬ Own σ ρ1 k P := fun k z => OwnS.there s1 ⟨k, z⟩ hP
/-- one turn: target, test, element; o is the new object -/
theorem LI.turn {ρa ρb : Env} {G2 H2 G3 H3 : Hp} {d' : D} {o : HO} (l : LI K A σ G1 H1 ρ1 vs P G H ρi d) (s1 : St K A σ G1 H1 ρ1) (hP : H1 P = none) (n0 : Nx0 G H G2 H2) (hl : σ2.length = σ.length) (hw : ∀ i, i ∉ vs → σ2[i]? = (L2.wipe σ vs)[i]?)
    (ow : ∀ k p, Own σ2 ρa k p → Own (L2.wipe σ vs) (wipeS ρi vs) k p) (n : Nx K A σ2 G2 H2 ρa G3 H3 ρb) (new : Has K A G3 (upd H3 P o) P d') : LI K A σ G1 H1 ρ1 vs P G3 (upd H3 P o) ρb d' := by
  have noP : ¬ OwnS σ2 ρa P := fun ⟨k, z⟩ => l.no s1 hP k (l.own k P (ow k P z))
  have p2 := pend0 l.gP l.hP n0
  have p3 := pend noP p2.1 p2.2 n
  have noPb : ¬ OwnS σ2 ρb P := fun ⟨k, z⟩ => noP ⟨k, n.own k P z⟩
  have e1 := l.ext.trans n0.ext fun _ z => z.elim
  have e2 := e1.trans n.ext fun p ⟨k, z⟩ => .inl ⟨k, l.own k p (ow k p z)⟩
  obtain ⟨sw, ow2⟩ := St.wipe vs (n.st.updP (o := o) p3.1 noPb (by obtain ⟨o0, e0, n0⟩ := p3.2.nt; exact nT.up e0 n0 n.st.sub.tb))
  rw [wipe_eq hl hw] at sw ow2
  refine ⟨⟨e2.gs, e2.fr, fun q u z nn nt => ?_, fun q z => ?_⟩, sw, fun k p z => l.own k p (ow k p (n.own k p (ow2 k p z))), p3.1, new⟩
  · have ne : q ≠ P := ne_of_none z hP
    rw [upd_ne ne]; exact e2.hs q u z nn nt
  · by_cases e : q = P
    · subst e; rw [upd_same]; exact fun x => nomatch x
    · rw [upd_ne e]; exact e2.there q z
theorem LI.skip {ρa ρb : Env} {G2 H2 G3 H3 : Hp} (l : LI K A σ G1 H1 ρ1 vs P G H ρi d) (s1 : St K A σ G1 H1 ρ1) (hP : H1 P = none) (n0 : Nx0 G H G2 H2) (hl : σ2.length = σ.length) (hw : ∀ i, i ∉ vs → σ2[i]? = (L2.wipe σ vs)[i]?)
    (ow : ∀ k p, Own σ2 ρa k p → Own (L2.wipe σ vs) (wipeS ρi vs) k p) (n : Nx K A σ2 G2 H2 ρa G3 H3 ρb) : LI K A σ G1 H1 ρ1 vs P G3 H3 ρb d := by
  have noP : ¬ OwnS σ2 ρa P := fun ⟨k, z⟩ => l.no s1 hP k (l.own k P (ow k P z))
  have p2 := pend0 l.gP l.hP n0
  have p3 := pend noP p2.1 p2.2 n
  have e1 := l.ext.trans n0.ext fun _ z => z.elim
  have e2 := e1.trans n.ext fun p ⟨k, z⟩ => .inl ⟨k, l.own k p (ow k p z)⟩
  obtain ⟨sw, ow2⟩ := St.wipe vs n.st
  rw [wipe_eq hl hw] at sw ow2
  exact ⟨e2, sw, fun k p z => l.own k p (ow k p (n.own k p (ow2 k p z))), p3.1, p3.2⟩
theorem LI.begin {o : HO} (s1 : St K A σ G1 H1 ρ1) (hP : H1 P = none) (new : Has K A G1 (upd H1 P o) P d) : LI K A σ G1 H1 ρ1 vs P G1 (upd H1 P o) ρ1 d := by
  have gP := (upd_nx0 (o := o) s1.sub hP).2
  obtain ⟨sw, ow⟩ := St.wipe vs (s1.updP (o := o) gP (fun z => OwnS.there s1 z hP) (nT.new hP s1.sub.tb))
  refine ⟨⟨fun _ _ z => z, fun _ z => .inl z, fun q u z _ _ => by rw [upd_ne (ne_of_none z hP)]; exact z, fun q z => ?_⟩, sw, ow, gP, new⟩
  by_cases e : q = P
  · subst e; rw [upd_same]; exact fun x => nomatch x
  · rw [upd_ne e]; exact z
theorem LI.done (l : LI K A σ G1 H1 ρ1 vs P G H ρi d) (s1 : St K A σ G1 H1 ρ1) (hP : H1 P = none) (no : noOw ρ1 vs = true) (n1 : Nx K A σ G' H' ρ' G1 H1 ρ1) : Nx K A σ G' H' ρ' G H (backS ρ1 ρi vs) ∧ RepR K A (OwnS σ (backS ρ1 ρi vs)) H' G H (.ref P) (d, true) := by
  have hlen : (wipeS ρi vs).length = σ.length := by have := l.st.len; rw [wipe_length] at this; exact this.symm
  have inn : ∀ k ∈ vs, ∀ z, (backS ρ1 ρi vs)[k]? = some z → SlotOk K A G H (σ.getD k none) z ∧ ∀ d, z ≠ .ow d := fun k hk z hz => by
    obtain ⟨y, h1, h2⟩ := noOw_ok no hk
    have e := backS_in hk hz
    rw [List.getD_eq_getElem?_getD, h1] at e
    have e : z = y := e
    subst e
    refine ⟨?_, h2⟩
    have q := s1.slot k z h1
    cases z with
    | un => trivial
    | sh d => obtain ⟨v, a, b⟩ := q; exact ⟨v, a, b.mono l.ext.gs⟩
    | ow d => exact absurd rfl (h2 d)
  have out : ∀ k, k ∉ vs → ∀ p, Own σ (backS ρ1 ρi vs) k p → Own (L2.wipe σ vs) (wipeS ρi vs) k p := fun k hk p ⟨⟨d, h1⟩, h2⟩ => by
    rw [backS_out hk] at h1
    exact ⟨⟨d, by rw [wipeS_out hk]; exact h1⟩, by rw [wipe_out hk]; exact h2⟩
  have ow : ∀ k p, Own σ (backS ρ1 ρi vs) k p → Own (L2.wipe σ vs) (wipeS ρi vs) k p := fun k p z => by
    by_cases hk : k ∈ vs
    · obtain ⟨⟨d, h1⟩, _⟩ := z
      exact absurd rfl ((inn k hk _ h1).2 d)
    · exact out k hk p z
  have st : St K A σ G H (backS ρ1 ρi vs) := by
    refine ⟨l.st.sub, by rw [backS_len, ← wipeS_len (vs := vs)]; exact hlen.symm, fun k z hz => ?_, fun a b p ha hb => l.st.dist a b p (ow a p ha) (ow b p hb)⟩
    by_cases hk : k ∈ vs
    · exact (inn k hk z hz).1
    · rw [backS_out hk] at hz
      have := l.st.slot k z (by rw [wipeS_out hk]; exact hz)
      rw [List.getD_eq_getElem?_getD, wipe_out hk, ← List.getD_eq_getElem?_getD] at this
      exact this
  have nn : Nx K A σ G1 H1 ρ1 G H (backS ρ1 ρi vs) := ⟨l.ext, st, fun k p z => l.own k p (ow k p z)⟩
  refine ⟨n1.trans nn, later n1 (RepR.new l.gP l.hP (fun ⟨k, z⟩ => l.no s1 hP k (l.own k P (ow k P z))) hP)⟩
variable (K A) in
def liftC : Option Ev → TT
  | none => tYes
  | some m => liftT K A m
theorem cond_use {c : Option Ev} {b : Bool} {RR : Bool → Hp → Prop} (s : St K A σ G H ρ) (e : cond c ρ = .ok (b, ρ')) (k : ∀ G' H', Nx K A σ G H ρ G' H' ρ' → RR b H') : liftC K A c σ H RR := by
  cases c with
  | none => cases e; exact k G H (Nx.refl s)
  | some t =>
    obtain ⟨⟨x, ρ2⟩, e1, e⟩ := bind_ok e
    obtain ⟨b', e2, e⟩ := bind_ok e
    cases e
    obtain rfl := isB_ok e2
    exact ⟨G, ρ, b, _, s, e1, k⟩
theorem lcGo_cons {g : Tg} {c : Option Ev} {e : Ev} {ds acc accE : List D} {x : D} {ρE : Env} (h : lcGo g c e vs (x :: ds) acc ρ = .ok (accE, ρE)) : ∃ ρa b ρb, g x (wipeS ρ vs) = .ok ρa ∧ cond c ρa = .ok (b, ρb) ∧
    ((b = true ∧ ∃ y ρc, val e ρb = .ok (y, ρc) ∧ lcGo g c e vs ds (acc ++ [y]) ρc = .ok (accE, ρE)) ∨ (b = false ∧ lcGo g c e vs ds acc ρb = .ok (accE, ρE))) := by
  obtain ⟨ρa, e1, h⟩ := bind_ok h
  obtain ⟨⟨b, ρb⟩, e2, h⟩ := bind_ok h
  refine ⟨ρa, b, ρb, e1, e2, ?_⟩
  cases b with
  | true =>
    obtain ⟨⟨y, ρc⟩, e3, h⟩ := bind_ok (show (val e ρb >>= fun z => lcGo g c e vs ds (acc ++ [z.1]) z.2) = .ok (accE, ρE) from h)
    exact .inl ⟨rfl, y, ρc, e3, h⟩
  | false => exact .inr ⟨rfl, h⟩
theorem lc_main {Φ : Hp → Hp → Prop} {J : It} {ds accE : List D} {ρE : Env} {ws : List Nat} {g : Tg} {c : Option Ev} {e : Ev} {Q : VK} (hws : ∀ i ∈ ws, i ∈ vs) (s1 : St K A σ G1 H1 ρ1) (wd : WalkD K A Φ J ds) (hΦ : ∀ G H, Ext (OwnS σ ρ1) G1 H1 G H → Sub G H → Φ G H) (hno : noOw ρ1 vs = true) (hlen : ds.length ≤ 1000) (e2 : lcGo g c e vs ds [] ρ1 = .ok (accE, ρE))
    (k : ∀ v G' H', Nx K A σ G1 H1 ρ1 G' H' (backS ρ1 ρE vs) → RepR K A (OwnS σ (backS ρ1 ρE vs)) H1 G' H' v (.lst accE, true) → Q v H') :
    ∀ D, H1 D = none → ∃ W : Nat → Nat → Hp → Prop, (∃ m, W 0 m (upd H1 D (.lst []))) ∧ ∀ i m H, W i m H →
      (J.stop i H ∧ Q (.ref D) H) ∨ (J.go i H ∧ ∃ Nx : Hp → Prop, (∀ H', Nx H' → ∃ m', m' < m ∧ W (i + 1) m' H') ∧ ∀ x H', J.yld i H x H' → liftG K A ws g x (L2.wipe σ vs) H' fun σ2 H2 => L2.wipe σ2 vs = L2.wipe σ vs ∧ liftC K A c σ2 H2 fun b H3 =>
        if b = true then liftE K A e σ2 H3 fun y H4 => ∃ acc, H4 D = some (.lst acc) ∧ acc.length < sizeLine ∧ Nx (upd H4 D (.lst (acc ++ [y]))) else Nx H3) := by
  intro P hP
  obtain ⟨Gd, Y, w, hG, hY⟩ := wd
  refine lc_it w (Qd := fun H => Q (.ref P) H) (fun i H' => ∃ G' ρi acc, LI K A σ G1 H1 ρ1 vs P G' H' ρi (.lst acc) ∧ acc.length ≤ i ∧ lcGo g c e vs (ds.drop i) acc ρi = .ok (accE, ρE)) ⟨G1, ρ1, [], LI.begin s1 hP ⟨[], upd_same, .nil⟩, Nat.le_refl _, e2⟩ ?_ ?_ ?_
  · rintro i H' _ ⟨G', ρi, acc, l, _⟩
    exact hG G' H' (hΦ _ _ l.ext l.st.sub)
  · rintro i x H2 H3 hi ⟨G2, ρi, acc, l, hl, e2⟩ y
    obtain ⟨G3, d, n0, hd, rx⟩ := hY i G2 H2 x H3 hi (hΦ _ _ l.ext l.st.sub) y
    rw [List.drop_eq_getElem_cons hi, (List.getElem?_eq_some_iff.mp hd).2] at e2
    obtain ⟨ρa, b, ρb, ea, eb, ec⟩ := lcGo_cons e2
    refine ⟨G3, wipeS ρi vs, d, ρa, (l.st.nx0 n0).st, rx, ea, fun σ2 st2 ow2 hl2 hw2 => ?_⟩
    have hl2' : σ2.length = σ.length := by rw [hl2, wipe_length]
    have hw2' : ∀ i, i ∉ vs → σ2[i]? = (L2.wipe σ vs)[i]? := fun i hi => hw2 i fun z => hi (hws i z)
    refine ⟨wipe_eq hl2' hw2', cond_use st2 eb fun G4 H4 n4 => ?_⟩
    rcases ec with ⟨rfl, yv, ρc, ey, ec⟩ | ⟨rfl, ec⟩
    · refine iteT (use_val n4.st ey fun v G5 H5 n5 r5 => ?_)
      have n45 := n4.trans n5
      have noP : ¬ OwnS σ2 ρa P := fun ⟨k, z⟩ => l.no s1 hP k (l.own k P (ow2 k P z))
      have p3 := pend0 l.gP l.hP n0
      obtain ⟨gP, avs, hv, ra⟩ := pend noP p3.1 p3.2 n45
      exact ⟨avs, hv, small1000 (by rw [ra.len]; omega), G5, ρc, acc ++ [yv], l.turn s1 hP n0 hl2' hw2' ow2 n45 ⟨_, upd_same, ra.append (.cons r5 .nil)⟩, by rw [List.length_append]; exact Nat.succ_le_succ hl, ec⟩
    · exact iteF ⟨G4, ρb, acc, l.skip s1 hP n0 hl2' hw2' ow2 n4, Nat.le_succ_of_le hl, ec⟩
  · rintro H2 ⟨G2, ρi, acc, l, _, e2⟩
    rw [List.drop_length] at e2
    cases e2
    obtain ⟨nn, rr⟩ := l.done s1 hP hno (Nx.refl s1)
    exact k _ G2 H2 nn rr
theorem eLc_ok {it : Iv} {g : Tg} {c : Option Ev} {e : Ev} {r : Rv} (h : eLc it g c e vs ρ = .ok (r, ρ')) : ∃ ds ρ1 accE ρE, it ρ = .ok (ds, ρ1) ∧ noOw ρ1 vs = true ∧ ds.length ≤ 1000 ∧ lcGo g c e vs ds [] ρ1 = .ok (accE, ρE) ∧ r = (.lst accE, true) ∧ ρ' = backS ρ1 ρE vs := by
  obtain ⟨⟨ds, ρ1⟩, e1, h⟩ := bind_ok h
  dsimp only at h
  split at h
  · rename_i hno
    rw [Bool.and_eq_true] at hno
    obtain ⟨⟨accE, ρE⟩, e2, h⟩ := bind_ok h
    cases h
    exact ⟨ds, ρ1, accE, ρE, e1, hno.1, of_decide_eq_true hno.2, e2, rfl, rfl⟩
  · cases h
theorem lc_use {it : Iv} {ws : List Nat} {g : Tg} {c : Option Ev} {e : Ev} {Q : VK} (hws : ∀ i ∈ ws, i ∈ vs) (h : liftE K A (eLc it g c e vs) σ H Q) : tLc (liftI K A it) (liftG K A ws g) (liftC K A c) (liftE K A e) vs σ H Q := by
  obtain ⟨G, ρ, r, ρ', s, e0, k⟩ := h
  obtain ⟨ds, ρ1, accE, ρE, e1, hno, hlen, e2, rfl, rfl⟩ := eLc_ok e0
  exact ⟨G, ρ, ds, ρ1, s, e1, fun J G1 H1 n1 wd => lc_main hws n1.st wd (fun _ _ x y => ⟨x.gs, y⟩) hno hlen e2 fun v G' H' nn rr => k v G' H' (n1.trans nn) (later n1 rr)⟩
/-! ### the keys of a dict -/
/-! for over the keys -/
theorem dput_len {κ : Type} [DecidableEq κ] (kvs : List (κ × D)) (k : κ) (v : D) : (dput kvs k v).length ≤ kvs.length + 1 := by
  unfold dput
  split
  · rw [List.length_map]; omega
  · rw [List.length_append]; exact Nat.le_refl _
end
section
variable {X : Cx} {A : CT}
theorem pdts_nil : PTs X [] (liftC X.K A none) := pts_nil
theorem pdts_one {c : Expr} {m : Ev} (h : PDT A X c m) : PTs X [c] (liftC X.K A (some m)) := pts_one h
theorem pd_lc {e : Expr} {it : Iv} {vs ws : List Nat} {g : Tg} {c : Option Ev} {m : Ev} (hws : ∀ i ∈ ws, i ∈ vs) (h : PE X e (tLc (liftI X.K A it) (liftG X.K A ws g) (liftC X.K A c) (liftE X.K A m) vs)) : PD A X e (eLc it g c m vs) := PE.imp h fun _ _ _ => lc_use hws
end
end DY

set_option Elab.async false
set_option linter.all false
set_option maxRecDepth 100000
set_option maxHeartbeats 4000000
namespace DY
open PySem L2 PySem.Spec PyProof.Rows
variable [Tb]
/-- a value that no unfolding opens -/
noncomputable def shut {α : Type} (a : α) : α := (Classical.choice (⟨⟨a, rfl⟩⟩ : Nonempty {x : α // x = a})).1
theorem shut_eq {α : Type} (a : α) : shut a = a := (Classical.choice (⟨⟨a, rfl⟩⟩ : Nonempty {x : α // x = a})).2
/-! ### what the printer names -/
theorem mkFn_len {n p : Nat} {body : Sv} : ∀ ds r, mkFn n p body ds = .ok r → ds.length = p := fun ds r h => by
  unfold mkFn at h
  split at h
  · assumption
  · cases h
theorem mkFnR_len {n p j : Nat} {body : Sv} : ∀ ds d r, mkFnR n p j body ds d = .ok r → ds.length + 1 = p := fun ds d r h => by
  unfold mkFnR at h
  split at h
  · rename_i q; exact q.1
  · cases h
theorem u65 {k : Nat} {A : Around} (r : Room k A) : A.units + 65 < cLine := by have := r.un; omega
/-- values in the parameters' order -/
def prm {α : Type} (is : List Nat) (xs zs : List α) : List α := xs ++ is.filterMap (fun i => zs[i]?)
theorem prm_gv (is : List Nat) : GV (prm is) (prm is) := by
  refine ⟨fun {K A G vs zs ds es} h1 h2 => h1.append ?_⟩
  induction is with
  | nil => exact .nil
  | cons i is ih =>
    rw [List.filterMap_cons, List.filterMap_cons]
    cases e : zs[i]? with
    | none =>
      have : es[i]? = none := by
        rw [List.getElem?_eq_none_iff] at e ⊢
        rw [← h2.len]; exact e
      rw [this]; exact ih
    | some v =>
      obtain ⟨d, e2, r⟩ := h2.get e
      rw [e2]; exact .cons r ih
theorem vals_prm (is : List Nat) {vs zs : List V} {us ws : List Value} (h1 : Vals vs us) (h2 : Vals zs ws) : Vals (prm is vs zs) (prm is us ws) := by
  refine h1.append ?_
  induction is with
  | nil => exact .nil
  | cons i is ih =>
    rw [List.filterMap_cons, List.filterMap_cons]
    have key : ∀ {zs : List V} {ws : List Value}, Vals zs ws → ∀ i : Nat, (zs[i]? = none ∧ ws[i]? = none) ∨ ∃ v u, zs[i]? = some v ∧ ws[i]? = some u ∧ Vals [v] [u] := fun {zs ws} h => by
      induction h with
      | nil => intro i; exact .inl ⟨by simp, by simp⟩
      | cons a b ih =>
        intro i
        cases i with
        | zero => exact .inr ⟨_, _, rfl, rfl, .cons a .nil⟩
        | succ i => simpa using ih i
    rcases key h2 i with ⟨e1, e2⟩ | ⟨v, u, e1, e2, q⟩
    · rw [e1, e2]; exact ih
    · rw [e1, e2]
      exact Vals.append q ih
section
variable {K : PySem.W.Frag} {X : Cx} {A : CT} {pos pos' apos : Pos} {n : Nat} {a e f : Expr} {es : List Expr} {ma me mf : Ev} {ms : List Ev} {m : Str} {E : XK}
/-! ### {} -/
def eC0 (d : D) : Ev := fun ρ => .ok ((d, true), ρ)
theorem pd_dnew : PD A X (.Dict [] [] pos) (eC0 (.dic [])) := PE.imp pe_dnewK fun σ H Q q => by
  obtain ⟨G, ρ, r', ρ', s, e, k⟩ := q
  cases e
  intro p hp
  obtain ⟨h1, h2⟩ := new_dic (A := A) s.sub hp (.nil (K := X.K))
  exact end_of (Nx.refl s) k _ _ _ h1 h2
/-! ### f'..' -/
end
/-! ### the law -/
/-- the script stands for a frozen list -/
theorem rep_script {K : PySem.W.Frag} {A : CT} {H : Hp} {p : Addr} {ns : List Int} (h : SqL K H p (ns.map V.int)) : Rep K A H (.ref p) (.fls (ns.map D.int)) := by
  refine .fls h ?_
  clear h
  induction ns with
  | nil => exact .nil
  | cons n ns ih => exact .cons (.int n) ih
theorem sqL_noTb {K : PySem.W.Frag} {H : Hp} {p : Addr} {vs : List V} (h : SqL K H p vs) : SqL K (noTb H) p vs := by
  rcases h with (h | ⟨o, h⟩) | h
  · exact .inl (.inl (noTb_ok h fun _ z => nomatch z))
  · exact .inl (.inr ⟨o, noTb_ok h fun _ z => nomatch z⟩)
  · exact .inr h
/-- the classes' attributes in the order of their writing -/
def nmsOf : Nat → List Str
  | 0 => ["top", "bottom"]
  | 1 => ["constant", "terms", "names"]
  | 2 => ["parts", "ties", "hooks", "strings", "names", "ways"]
  | 3 => ["puppet", "moves", "begin"]
  | 4 => ["script", "kept", "stages"]
  | 5 => ["form"]
  | 6 => ["names", "forms", "conditions", "known"]
  | 9 => ["columns", "basics", "rows", "scale"]
  | 7 => ["script", "wish", "overs", "reached", "taken", "truths", "gathered"]
  | 21 | 22 | 23 | 24 | 28 | 30 | 31 | 33 | 34 | 35 | 38 | 39 | 40 | 41 | 42 | 43 | 45 | 46 | 47 => ["value"]
  | 25 | 26 | 27 | 29 | 32 | 36 | 37 | 48 => ["index"]
  | 49 | 50 => ["given"]
  | 51 => ["weights"]
  | 55 => ["move", "shown"]
  | 57 => ["limit"]
  | _ => []
theorem nms_nd (c : Nat) : (nmsOf c).Nodup := by
  unfold nmsOf
  split <;> decide +kernel
def sp_law (K : PySem.W.Frag) : Sp := fun vs H Q _ => ∃ (p : Addr) (ns : List Int), vs = [.ref p] ∧ SqL K H p (ns.map V.int) ∧ ns.length ≤ 63 ∧ LamX.Tabs Tb.T H ∧ ∀ H', Q (.bl true) H'
theorem sp_of {K : PySem.W.Frag} {A : CT} {F : Fn} (hb : ∀ p, Tb.base p = none) (ht : ∀ ns : List Int, ns.length ≤ 63 → F [.fls (ns.map D.int)] = .ok (.bl true, false)) {vs : List V} {H : Hp} {Q : VK} {E : XK} (h : sp_law K vs H Q E) : spF K A F 1 vs H Q E := by
  obtain ⟨p, ns, rfl, hp, hl, ht', k⟩ := h
  refine ⟨rfl, noTb H, _, _, Sub.start ht' hb, .cons (rep_script (sqL_noTb hp)) .nil, ht ns hl, fun v G' H' _ rn => ?_⟩
  cases (show Rep K A G' v (.bl true) from rn)
  exact k H'
end DY

set_option Elab.async false
set_option linter.all false
set_option maxRecDepth 100000
set_option maxHeartbeats 4000000
/-! ### enumerate over a tuple, a text -/
namespace DY
open PySem L2 PySem.Spec PyProof.Rows
variable [Tb]
set_option maxHeartbeats 4000000 in
theorem meets_enum1 {v : Value} {o : Obj} {H : Heap → Prop} (B : Begins v o H) :
    Meets (Builtin.«enumerate.__new__» ⟨[.type "enumerate", v], []⟩) (fun _ R s => H s.heap ∧
      R (.ok (.ret (.ref (s.heap.push o).objs.size))) { s with heap := (s.heap.push o).push { cls := .type "enumerate", data := .fields #[.none, .bool false, .ref s.heap.objs.size, rawInt 0, .none, .none] } }) :=
  .of_wp fun prog w A R s h => by
    obtain ⟨hp, g, d, tk, os⟩ := s; obtain ⟨h1, h⟩ := h
    have hsub := sub_enumerate
    have q1 : ∀ {A' : Around} {E : Value → Shared → Prop} {Q : Value → Shared → Prop}, Q (.ref hp.objs.size) ⟨hp.push o, g, d, tk, os⟩ → wpAny (model prog w) A' (pyIter v) Q E ⟨hp, g, d, tk, os⟩ :=
      fun q => B.iter prog w _ _ ⟨hp, g, d, tk, os⟩ _ h1 q
    wp_walk using q1
    refine wpAny_stack_any fun st => wpAny_pure ?_
    split
    · rename_i c _ _ _ _ _
      cases (c == Value.type "enumerate")
      · wp_walk using q1
        exact ⟨_, rfl, h⟩
      · wp_walk using q1
        exact ⟨_, rfl, h⟩
    · wp_walk using q1
      exact ⟨_, rfl, h⟩
theorem enum_begins1 {prog : Program} {w : World} {A : Around} {E : Value → Shared → Prop} {s : Shared} {v : Value} {o : Obj} {H : Heap → Prop} {Q : Value → Shared → Prop} (B : Begins v o H) (h1 : H s.heap)
    (h : ∀ h', IsEnum h' (s.heap.objs.size + 1) s.heap.objs.size 0 .none → h'.get? s.heap.objs.size = some o → h'.objs.size = s.heap.objs.size + 2 →
      (∀ b o, s.heap.get? b = some o → h'.get? b = some o) → Q (.ref (s.heap.objs.size + 1)) { s with heap := h' }) :
    wpAny (model prog w) A (call (.type "enumerate") [v]) Q E s := by
  refine callType_new F.called_enumerate (by decide) (F.typeCall_enumerate_1 _) (F.newCall_enumerate_1 _) (fun obj => F.args_object_init_2 obj _) F.entry_enumerate_new
    (meets_enum1 B) ⟨h1, ?_⟩
  have hz : (s.heap.push o).objs.size = s.heap.objs.size + 1 := Heap.size_push ..
  show _ ∧ _
  rw [hz]
  have he : IsEnum ((s.heap.push o).push { cls := .type "enumerate", data := .fields #[.none, .bool false, .ref s.heap.objs.size, rawInt 0, .none, .none] }) (s.heap.objs.size + 1) s.heap.objs.size 0 .none := by
    have := Heap.get?_push_size (s.heap.push o) (o := { cls := .type "enumerate", data := .fields #[.none, .bool false, .ref s.heap.objs.size, rawInt 0, .none, .none] }) rfl
    rw [hz] at this; exact this
  refine ⟨⟨_, he, rfl⟩, h _ he (Heap.get?_push_of_some _ (Heap.get?_push_size _ B.free)) (by rw [Heap.size_push, hz]) fun b o x => Heap.get?_push_of_some _ (Heap.get?_push_of_some _ x)⟩
/-- the tuple at a, each item in a new pair -/
def IteT (K : PySem.W.Frag) (a : Addr) : It :=
  ⟨fun i H => ∃ (xs : List V) (x : V), SqT K H a xs ∧ xs[i]? = some x, fun i H v H' => ∃ T x, v = .ref T ∧ H T = none ∧ H' = upd H T (.tup [.int (i : Nat), x]) ∧ ∀ xs, SqT K H a xs → xs[i]? = some x, fun i H => ∃ xs : List V, SqT K H a xs ∧ xs.length ≤ i⟩
theorem turn_enumT {P : Program} {w : World} {K : PySem.W.Frag} {elts : List Expr} {kk : Nat} {tpos : Pos} (a e it : Addr) :
    Turn P w K (.Tuple elts kk tpos) (IteT K a) [e, it] e (fun i h => (∃ old, IsEnum h e it ((i : Nat) : Int) old) ∧ h.IsTupleIter it a i ∧ e ≠ it) where
  mem := by simp
  obj := fun i h st b hb => by
    obtain ⟨⟨old, he⟩, ⟨o, ho, hc, hd⟩, _⟩ := st
    have e' : b = e ∨ b = it := by simpa using hb
    rcases e' with z | z
    · rw [z]; exact ⟨_, he, fun v q => nomatch q⟩
    · rw [z]; exact ⟨o, ho, fun v q => by rw [hd] at q; cases q⟩
  keep := fun i h h' st k => let ⟨⟨old, he⟩, hi, hne⟩ := st; ⟨⟨old, k e (by simp) _ he⟩, hi.at fun o q => k it (by simp) o q, hne⟩
  item := by
    intro X hP hw hK hc i pins s σ H E I hf st hg
    subst hP hw hK
    obtain ⟨⟨old, he⟩, hit, hne⟩ := st
    obtain ⟨xs, x, hq, hx⟩ := hg
    obtain ⟨its, rv, p, hz⟩ := I.tuple hq
    have p : s.heap.IsTuple a its.toArray := p
    obtain ⟨u, hu, ru⟩ := rv.get hx
    have hel : e < s.heap.objs.size := Heap.lt_size he
    have hil : it < s.heap.objs.size := by obtain ⟨_, q, _⟩ := hit; exact Heap.lt_size q
    have hai : a ≠ it := fun z => by
      subst z
      obtain ⟨o, ho, hc1, _⟩ := hit
      obtain ⟨o2, ho2, hc2, _⟩ := p
      rw [ho] at ho2; cases ho2
      rw [hc1] at hc2; exact absurd hc2 (by decide)
    have hae : e ≠ a := fun z => by
      subst z
      obtain ⟨o2, ho2, hc2, _⟩ := p
      have he' : s.heap.get? e = _ := he
      rw [ho2] at he'
      cases he'
      exact absurd (show Value.type "enumerate" = Value.type "tuple" from hc2) (by decide)
    have hD := Draws.tuple (prog := X.prog) (w := X.w) (A := X.A.in1) (I.ok.hd hc) it a hai its.toArray
    have hlt : i < its.toArray.size := by
      have := (List.getElem?_eq_some_iff.mp hu).1
      simpa using this
    refine wpAny_pyNext_enum_itemD hD he ⟨hit, p⟩ hlt hne (by simp [hne, hae]) fun v h' tk hv ho hit' hT hsz hk => ?_
    have ev : v = u := by
      have : its.toArray[i]? = some u := by simpa using hu
      rw [this] at hv; cases hv; rfl
    subst ev
    refine ⟨_, rfl, wpAny_letOwnedTupleGo_enum (s := { s with heap := h', toks := tk + 1 }) ho fun h'' he' sb => ?_⟩
    have hT2 : h''.get? s.heap.objs.size = some { cls := .type "tuple", data := .seq #[.int i tk, v] } := (sb.2 _ (Nat.ne_of_gt hel)).trans hT
    have new : ObjOk X.prog X.w (upd H s.heap.objs.size (.tup [.int (i : Nat), x])) h'' s.heap.objs.size (.tup [.int (i : Nat), x]) :=
      ⟨by show 2 ≤ sizeLine; decide, [.int i tk, v], .cons ⟨_, rfl⟩ (.cons ru .nil), ⟨_, hT2, rfl, _, rfl⟩⟩
    have I1 : Inv X pins σ (upd H s.heap.objs.size (.tup [.int (i : Nat), x])) { s with heap := h'', toks := tk + 1 } :=
      I.turnedNew (ch := [e, it]) (fun b ob hb q => (sb.2 b (fun z => hb (by simp [z]))).trans (hk b ob (fun z => hb (by simp [z])) (fun z => hb (by simp [z])) q)) hf (Nat.le_refl _) new
    refine ⟨.ref s.heap.objs.size, _, I1, rfl, ⟨_, x, rfl, I.hok.fresh (Nat.le_refl _), rfl, fun ys hy => by rw [I.tuple_inj hy hq]; exact hx⟩, ⟨⟨v, ?_⟩, hit'.1.at fun o q => (sb.2 it (Ne.symm hne)).trans q, hne⟩, fun b hb => ?_⟩
    · have e1 : ((i + 1 : Nat) : Int) = (i : Int) + 1 := by omega
      rw [e1]; exact he'
    · have hb' : b < s.heap.objs.size := by
        have e' : b = e ∨ b = it := by simpa using hb
        rcases e' with z | z
        · rw [z]; exact hel
        · rw [z]; exact hil
      rw [upd_ne (Nat.ne_of_lt hb')]
      exact (hf b hb).1
  done := by
    intro X hP hw hK hc i pins s σ H E I hf st hg
    subst hP hw hK
    obtain ⟨⟨old, he⟩, hit, hne⟩ := st
    obtain ⟨xs, hq, hx⟩ := hg
    obtain ⟨its, rv, p, hz⟩ := I.tuple hq
    have p : s.heap.IsTuple a its.toArray := p
    obtain ⟨f0, f1, f2, f3, f4, f5⟩ := hf it (by simp)
    have hl := rv.length
    have hai : a ≠ it := fun z => by
      subst z
      obtain ⟨o, ho, hc1, _⟩ := hit
      obtain ⟨o2, ho2, hc2, _⟩ := p
      rw [ho] at ho2; cases ho2
      rw [hc1] at hc2; exact absurd hc2 (by decide)
    have hT : s.TypeIs (.ref e) "enumerate" := ⟨_, he, rfl⟩
    unfold pyNext
    refine wpAny_bind (wpAny_attempt (wpAny_callSpecial?_slot (name := Str.ofString "__next__") hT F.slot_enumerate_next
      (wpAny_call_entry F.slot_enumerate_next hT F.entry_enumerate_next ?_ (F.args_enumerate_next_1 _))))
    show wpAny _ _ (field (.ref e) 2 >>= _) _ _ _
    refine wpAny_bind (wpAny_field he rfl (x := .ref it) rfl ?_)
    refine wpAny_bind (wpAny_nextOf_tuple_end (I.ok.hd hc) hit p (by simp; omega) fun h' x he' hx' => ?_)
    obtain ⟨o, ho, hc'⟩ := hx'
    refine wpAny_bind (wpAny_isInstance (T := "StopIteration") (b := true) ⟨o, ho, hc'⟩ isSubtype_stop ?_)
    exact wpAny_pure ⟨rfl, I.turned (t' := s.toks) (fun b o hb q => he' b o hb q) f0 f1 f3 f4 f5⟩
  self := fun A i s Q E st h => let ⟨⟨_, he⟩, _⟩ := st; wpAny_pyIter_enum he h
/-- the signs of a text, each in a new pair -/
def IteS (x : Str) : It :=
  ⟨fun i _ => i < x.cps.size, fun i H v H' => ∃ T c, v = .ref T ∧ H T = none ∧ H' = upd H T (.tup [.int (i : Nat), .str ⟨#[c]⟩]) ∧ x.cps[i]? = some c, fun i _ => x.cps.size ≤ i⟩
theorem turn_enumS {P : Program} {w : World} {K : PySem.W.Frag} {elts : List Expr} {kk : Nat} {tpos : Pos} (x : Str) (t : Tok) (e it : Addr) :
    Turn P w K (.Tuple elts kk tpos) (IteS x) [e, it] e (fun i h => (∃ old, IsEnum h e it ((i : Nat) : Int) old) ∧ h.IsStrIter it (strIterType x) x t i ∧ e ≠ it) where
  mem := by simp
  obj := fun i h st b hb => by
    obtain ⟨⟨old, he⟩, ⟨o, ho, hc, hd⟩, _⟩ := st
    have e' : b = e ∨ b = it := by simpa using hb
    rcases e' with z | z
    · rw [z]; exact ⟨_, he, fun v q => nomatch q⟩
    · rw [z]; exact ⟨o, ho, fun v q => by rw [hd] at q; cases q⟩
  keep := fun i h h' st k => let ⟨⟨old, he⟩, ⟨o, ho, r⟩, hne⟩ := st; ⟨⟨old, k e (by simp) _ he⟩, ⟨o, k it (by simp) o ho, r⟩, hne⟩
  item := by
    intro X hP hw hK hc i pins s σ H E I hf st hg
    subst hP hw hK
    obtain ⟨⟨old, he⟩, hit, hne⟩ := st
    have hel : e < s.heap.objs.size := Heap.lt_size he
    have hil : it < s.heap.objs.size := by obtain ⟨_, q, _⟩ := hit; exact Heap.lt_size q
    have hD := Draws.text (prog := X.prog) (w := X.w) (A := X.A.in1) (I.ok.hd hc) it x t
    refine wpAny_pyNext_enum_itemD hD he hit hg hne (by simp [hne]) fun v h' tk hv ho hit' hT hsz hk => ?_
    obtain ⟨c, u, hcx, rfl⟩ := hv
    refine ⟨_, rfl, wpAny_letOwnedTupleGo_enum (s := { s with heap := h', toks := tk + 1 }) ho fun h'' he' sb => ?_⟩
    have hT2 : h''.get? s.heap.objs.size = some { cls := .type "tuple", data := .seq #[.int i tk, .str ⟨#[c]⟩ u] } := (sb.2 _ (Nat.ne_of_gt hel)).trans hT
    have new : ObjOk X.prog X.w (upd H s.heap.objs.size (.tup [.int (i : Nat), .str ⟨#[c]⟩])) h'' s.heap.objs.size (.tup [.int (i : Nat), .str ⟨#[c]⟩]) :=
      ⟨by show 2 ≤ sizeLine; decide, [.int i tk, .str ⟨#[c]⟩ u], .cons ⟨_, rfl⟩ (.cons ⟨_, rfl⟩ .nil), ⟨_, hT2, rfl, _, rfl⟩⟩
    have I1 : Inv X pins σ (upd H s.heap.objs.size (.tup [.int (i : Nat), .str ⟨#[c]⟩])) { s with heap := h'', toks := tk + 1 } :=
      I.turnedNew (ch := [e, it]) (fun b ob hb q => (sb.2 b (fun z => hb (by simp [z]))).trans (hk b ob (fun z => hb (by simp [z])) (fun z => hb (by simp [z])) q)) hf (Nat.le_refl _) new
    refine ⟨.ref s.heap.objs.size, _, I1, rfl, ⟨_, c, rfl, I.hok.fresh (Nat.le_refl _), rfl, hcx⟩, ⟨⟨.str ⟨#[c]⟩ u, ?_⟩, (let ⟨o, ho, r⟩ := hit'; ⟨o, (sb.2 it (Ne.symm hne)).trans ho, r⟩), hne⟩, fun b hb => ?_⟩
    · have e1 : ((i + 1 : Nat) : Int) = (i : Int) + 1 := by omega
      rw [e1]; exact he'
    · have hb' : b < s.heap.objs.size := by
        have e' : b = e ∨ b = it := by simpa using hb
        rcases e' with z | z
        · rw [z]; exact hel
        · rw [z]; exact hil
      rw [upd_ne (Nat.ne_of_lt hb')]
      exact (hf b hb).1
  done := by
    intro X hP hw hK hc i pins s σ H E I hf st hg
    subst hP hw hK
    obtain ⟨⟨old, he⟩, hit, hne⟩ := st
    obtain ⟨f0, f1, f2, f3, f4, f5⟩ := hf it (by simp)
    have hT : s.TypeIs (.ref e) "enumerate" := ⟨_, he, rfl⟩
    have hx : x.cps[i]? = none := Array.getElem?_eq_none hg
    unfold pyNext
    refine wpAny_bind (wpAny_attempt (wpAny_callSpecial?_slot (name := Str.ofString "__next__") hT F.slot_enumerate_next
      (wpAny_call_entry F.slot_enumerate_next hT F.entry_enumerate_next ?_ (F.args_enumerate_next_1 _))))
    show wpAny _ _ (field (.ref e) 2 >>= _) _ _ _
    refine wpAny_bind (wpAny_field he rfl (x := .ref it) rfl ?_)
    have fin : ∀ h' x, Heap.ExtBut it s.heap h' → (∃ o, h'.get? x = some o ∧ o.cls = .type "StopIteration") → wpAny (model X.prog X.w) X.A (do if (← isInstance (.ref x) (.type "StopIteration")) then pure (none : Option Value) else throw (.ref x)) (fun r s1 => r = none ∧ Inv X pins σ H s1) E { s with heap := h' } := fun h' x he' hx' => by
      obtain ⟨o, ho, hc'⟩ := hx'
      refine wpAny_bind (wpAny_isInstance (T := "StopIteration") (b := true) ⟨o, ho, hc'⟩ isSubtype_stop ?_)
      exact wpAny_pure ⟨rfl, I.turned (t' := s.toks) (fun b o hb q => he' b o hb q) f0 f1 f3 f4 f5⟩
    cases ha : x.cps.all (· < 128)
    · simp only [strIterType, ha, Bool.false_eq_true, if_false] at hit
      exact wpAny_bind (wpAny_nextOf_wide_end (I.ok.hd hc) hit hx fin)
    · simp only [strIterType, ha, if_true] at hit
      exact wpAny_bind (wpAny_nextOf_ascii_end (I.ok.hd hc) hit hx fin)
  self := fun A i s Q E st h => let ⟨⟨_, he⟩, _⟩ := st; wpAny_pyIter_enum he h
def iEnumS (ta : TA) : TI := fun σ H R => ta σ H fun vs H1 => ∃ x, vs = [.str x] ∧ R (IteS x) H1
theorem pi_enumS {X : Cx} {e : Expr} {ta : TA} {p pos tpos : Pos} {elts : List Expr} {kk : Nat} (hg : Gl X "enumerate") (hm : X.mg "enumerate" = none) (ha : PA X [e] ta) (hs : starEach [e] X.env = [(false, eval e X.env)] := by rfl) :
    PI X (.Tuple elts kk tpos) (.Call (.Name "enumerate" p) [e] [] pos) (iEnumS ta) := by
  refine ⟨fun pins s σ H R I h => ?_⟩
  refine Call_ (ld_blt I hg hm boot_enumerate (PyProof.Rows.callWith_type1 (thn (ha.run pos pins s σ H _ I h) fun us s1 ⟨vs, H1, I1, r1, q1⟩ => ?_) hs rfl))
  obtain ⟨x, ex, q⟩ := q1
  subst ex
  cases r1 with
  | cons r rr =>
    cases rr
    obtain ⟨t, rfl⟩ := r
    refine enum_begins1 (begins_text x t) trivial fun h' he hit hsz hk => wpAny_pyIter_enum he ?_
    have I2 : Inv X pins σ H1 { s1 with heap := h' } := I1.kept (t' := s1.toks) hk
    refine ⟨s1.heap.objs.size + 1, [s1.heap.objs.size + 1, s1.heap.objs.size], _, _, H1, rfl, I2, turn_enumS x t (s1.heap.objs.size + 1) s1.heap.objs.size, ⟨⟨.none, he⟩, ⟨_, hit, rfl, rfl⟩, Nat.succ_ne_self _⟩, fun b hb => ?_, q⟩
    have e' : b = s1.heap.objs.size + 1 ∨ b = s1.heap.objs.size := by simpa using hb
    have hle : s1.heap.objs.size ≤ b := by
      rcases e' with z | z
      · rw [z]; exact Nat.le_add_right _ _
      · rw [z]; exact Nat.le_refl _
    exact I1.fpOk hle (I1.hok.fresh hle)
theorem walk_enumS {x : Str} : Walk (IteS x) x.cps.size (fun _ => True) (YPair (fun i => some (.int (i : Nat))) (fun i => (x.cps[i]?).map fun c => .str ⟨#[c]⟩)) := by
  refine ⟨fun i _ hi _ => hi, fun _ _ => Nat.le_refl _, fun i H v H' _ q y => ?_⟩
  obtain ⟨T, c, h1, h2, h3, h4⟩ := y
  exact ⟨T, .int (i : Nat), _, h1, h2, h3, rfl, by show Option.map _ _ = _; rw [h4]; rfl⟩
def iEnumT (K : PySem.W.Frag) (ta : TA) : TI := fun σ H R => ta σ H fun vs H1 => ∃ a xs, vs = [.ref a] ∧ SqT K H1 a xs ∧ R (IteT K a) H1
theorem pi_enumT {X : Cx} {e : Expr} {ta : TA} {p pos tpos : Pos} {elts : List Expr} {kk : Nat} (hg : Gl X "enumerate") (hm : X.mg "enumerate" = none) (ha : PA X [e] ta) (hs : starEach [e] X.env = [(false, eval e X.env)] := by rfl) :
    PI X (.Tuple elts kk tpos) (.Call (.Name "enumerate" p) [e] [] pos) (iEnumT X.K ta) := by
  refine ⟨fun pins s σ H R I h => ?_⟩
  refine Call_ (ld_blt I hg hm boot_enumerate (PyProof.Rows.callWith_type1 (thn (ha.run pos pins s σ H _ I h) fun us s1 ⟨vs, H1, I1, r1, q1⟩ => ?_) hs rfl))
  obtain ⟨a, xs, ex, hq, q⟩ := q1
  subst ex
  cases r1 with
  | cons r rr =>
    cases rr
    cases r
    obtain ⟨its, rv, p', hz⟩ := I1.tuple hq
    have p' : s1.heap.IsTuple a its.toArray := p'
    refine enum_begins1 (begins_tuple a its.toArray) p' fun h' he hit hsz hk => wpAny_pyIter_enum he ?_
    have I2 : Inv X pins σ H1 { s1 with heap := h' } := I1.kept (t' := s1.toks) hk
    refine ⟨s1.heap.objs.size + 1, [s1.heap.objs.size + 1, s1.heap.objs.size], _, _, H1, rfl, I2, turn_enumT a (s1.heap.objs.size + 1) s1.heap.objs.size, ⟨⟨.none, he⟩, ⟨_, hit, rfl, rfl⟩, Nat.succ_ne_self _⟩, fun b hb => ?_, q⟩
    have e' : b = s1.heap.objs.size + 1 ∨ b = s1.heap.objs.size := by simpa using hb
    have hle : s1.heap.objs.size ≤ b := by
      rcases e' with z | z
      · rw [z]; exact Nat.le_add_right _ _
      · rw [z]; exact Nat.le_refl _
    exact I1.fpOk hle (I1.hok.fresh hle)
theorem walk_enumT {K : PySem.W.Frag} {a : Addr} {xs : List V} : Walk (IteT K a) xs.length (fun H => SqT K H a xs) (YPair (fun i => some (.int (i : Nat))) (fun i => xs[i]?)) := by
  refine ⟨fun i _ hi q => ⟨xs, xs[i], q, by simp [hi]⟩, fun _ q => ⟨xs, q, Nat.le_refl _⟩, fun i H v H' _ q y => ?_⟩
  obtain ⟨T, x, h1, h2, h3, h4⟩ := y
  exact ⟨T, .int (i : Nat), x, h1, h2, h3, rfl, h4 xs q⟩
/-! ### mirrors -/
def enumL : Nat → List D → List D
  | _, [] => []
  | n, d :: ds => .kt [.int (n : Nat), d] :: enumL (n + 1) ds
def iEn (e : Ev) : Iv := fun ρ => do
  let (x, ρ1) ← val e ρ
  let ds ← items x
  pure (enumL 0 ds, ρ1)
theorem enumL_len : ∀ {n : Nat} {ds : List D}, (enumL n ds).length = ds.length
  | _, [] => rfl
  | n, d :: ds => by rw [enumL, List.length_cons, List.length_cons, enumL_len]
theorem enumL_get : ∀ {n : Nat} {ds : List D} {i : Nat} {d : D}, ds[i]? = some d → (enumL n ds)[i]? = some (.kt [.int ((n + i : Nat) : Int), d])
  | _, [], _, _, h => by simp at h
  | n, d :: ds, 0, x, h => by simp at h; subst h; rfl
  | n, d :: ds, i + 1, x, h => by
    rw [enumL, List.getElem?_cons_succ, enumL_get (n := n + 1) (by simpa using h)]
    congr 4
    omega
section
variable {K : PySem.W.Frag} {A : CT} {G G' : Hp} {X : Cx} {tg e : Expr} {me : Ev} {p pos tpos : Pos} {elts : List Expr} {kk : Nat}
theorem walkD_en {J : It} {ds : List D} {vs : List V} {Gd : Hp → Prop} (w : Walk J vs.length Gd (YPair (fun i => some (.int (i : Nat))) (fun i => vs[i]?))) (hg : ∀ G H, L2.Same G' G → Sub G H → Gd H) (r : Reps K A G' vs ds) : WalkD K A (Keep G') J (enumL 0 ds) := by
  refine ⟨Gd, _, by rw [enumL_len, ← r.len]; exact w, fun G H k => hg G H k.1 k.2, fun i G H x H' hi ⟨g, s⟩ y => ?_⟩
  obtain ⟨T, a, b, rfl, hT, rfl, ha, hb⟩ := y
  cases ha
  obtain ⟨d, h1, h2⟩ := r.get hb
  obtain ⟨n1, n2⟩ := new_key (A := A) s hT (.cons (.int (i : Int)) (.cons (h2.mono g) .nil))
  refine ⟨_, _, n1, by rw [enumL_get h1, Nat.zero_add], n2⟩
theorem pdi_enum (hg : Gl X "enumerate") (hm : X.mg "enumerate" = none) (ha : PDA A X [e] [me]) (hs : starEach [e] X.env = [(false, eval e X.env)] := by rfl) : PDI A X (.Tuple elts kk tpos) (.Call (.Name "enumerate" p) [e] [] pos) (iEn me) := ⟨fun pins s σ H R I h => by
  obtain ⟨G, ρ, ds, ρ', st, e, k⟩ := h
  obtain ⟨⟨x, ρ1⟩, e1, e⟩ := bind_ok e
  obtain ⟨ds', e2, e⟩ := bind_ok e
  cases e
  have ea : evs [me] ρ = .ok ([x], ρ') := by simp only [evs, e1, bind, DY.R.bind, pure]
  cases x with
  | str l =>
    cases e2
    refine (pi_enumS hg hm ha hs).run pins s σ H R I ⟨G, ρ, _, _, st, ea, fun vs G1 H1 n r => ?_⟩
    obtain ⟨v, rfl, r0⟩ := r.inv1
    cases r0
    refine ⟨_, rfl, k _ G1 H1 n ⟨_, _, by rw [enumL_len, List.length_map, show l.length = (S l).cps.size by simp [S]]; exact walk_enumS, fun _ _ _ => trivial, fun i G H x H' hi ⟨g, s⟩ y => ?_⟩⟩
    obtain ⟨T, a, b, rfl, hT, rfl, ha, hb⟩ := y
    cases ha
    obtain ⟨c, hc, rfl⟩ := Option.map_eq_some_iff.mp hb
    have hc' : l[i]? = some c := by
      have : l.toArray[i]? = some c := hc
      simpa using this
    obtain ⟨n1, n2⟩ := new_key (A := A) s hT (.cons (.int (i : Int)) (.cons (.str [c]) .nil))
    exact ⟨_, _, n1, by rw [enumL_get (d := .str [c]) (by rw [List.getElem?_map, hc']; rfl), Nat.zero_add], n2⟩
  | lst l =>
    cases e2
    refine (pi_enum hg hm ha hs).run pins s σ H R I ⟨G, ρ, _, _, st, ea, fun vs G1 H1 n r => ?_⟩
    obtain ⟨v, rfl, r0⟩ := r.inv1
    cases r0 with | lst h q =>
    exact ⟨_, _, rfl, SqL.of (n.st.sub.lst h), k _ G1 H1 n (walkD_en walk_enum (fun G H g s => SqL.of (s.lst (g _ _ h))) q)⟩
  | fls l =>
    cases e2
    refine (pi_enum hg hm ha hs).run pins s σ H R I ⟨G, ρ, _, _, st, ea, fun vs G1 H1 n r => ?_⟩
    obtain ⟨v, rfl, r0⟩ := r.inv1
    cases r0 with | fls h q =>
    exact ⟨_, _, rfl, n.st.sub.sqL h, k _ G1 H1 n (walkD_en walk_enum (fun G H g s => s.sqL (sqL_same g h)) q)⟩
  | tup l =>
    cases e2
    refine (pi_enumT hg hm ha hs).run pins s σ H R I ⟨G, ρ, _, _, st, ea, fun vs G1 H1 n r => ?_⟩
    obtain ⟨v, rfl, r0⟩ := r.inv1
    cases r0 with
    | tup nd h q => exact ⟨_, _, rfl, .inl (.inr ⟨_, n.st.sub.frt h⟩), k _ G1 H1 n (walkD_en walk_enumT (fun G H g s => .inl (.inr ⟨_, s.frt (g _ _ h)⟩)) q)⟩
    | emp a b c d => exact ⟨_, _, rfl, sqT_emp a b d, k _ G1 H1 n (walkD_en (vs := []) walk_enumT (fun G H g s => sqT_emp a b d) .nil)⟩
  | _ => cases e2⟩
end
end DY

set_option Elab.async false
set_option linter.all false
set_option maxRecDepth 100000
set_option maxHeartbeats 4000000
/-! ### {k: v, ..} -/
namespace DY
open PySem L2 PySem.Spec PyProof.Rows
variable [Tb]
section
variable {K : PySem.W.Frag} {A : CT} {G G' H H' : Hp} {σ : L2.St} {ρ ρ' : Env} {X : Cx} {pos : Pos} {j : Option Nat}
end
end DY

set_option Elab.async false
set_option linter.all false
set_option maxRecDepth 100000
set_option maxHeartbeats 4000000
/-! ### {k: v for ..}, the keys tuples: the kit's rule for dict comprehensions speaks of ints and texts alone; here the first object and the store are left open -/
namespace DY
open PySem L2 PySem.Spec PyProof.Rows
variable [Tb]
/-- what a comprehension fills: its first object, and one store -/
structure Fill (X : Cx) (z : HO) (R : V → V → Addr → Hp → Hp → Prop) : Prop where
  first : ∀ (H : Hp) (h : Heap), sysModules < h.objs.size → ObjOk X.prog X.w H (h.push { cls := .type "dict", data := .dict #[] }) h.objs.size z
  store : ∀ (Y : Cx), Y.prog = X.prog → Y.w = X.w → Y.A = X.A → ∀ (pins : List (Addr × Obj)) (σ : L2.St) (H H' : Hp) (s : Shared) (E : Value → Shared → Prop) (y v : V) (u r : Value) (D : Addr) (Q : Unit → Shared → Prop), L2.Inv Y pins σ H s → R y v D H H' → RelV y u → RelV v r → (∀ s', L2.Inv Y pins σ H' s' → Q () s') → wpAny (model Y.prog Y.w) Y.A (dictSet D u r) Q E s
/-- the rounds of a filling: J's turns, D what is filled -/
def Rounds (R : V → V → Addr → Hp → Hp → Prop) (J : It) (D : Addr) (g : TG) (tt : TT) (tk tv : TE) (vs : List Nat) (σ : L2.St) (H0 : Hp) (Q : Hp → Prop) : Prop := ∃ W : Nat → Nat → Hp → Prop, (∃ m, W 0 m H0) ∧ ∀ i m H, W i m H → (J.stop i H ∧ Q H) ∨ (J.go i H ∧ ∃ N : Hp → Prop, (∀ H', N H' → ∃ m', m' < m ∧ W (i + 1) m' H') ∧
  ∀ x H', J.yld i H x H' → g x (L2.wipe σ vs) H' fun σ2 H2 => L2.wipe σ2 vs = L2.wipe σ vs ∧ tt σ2 H2 fun b H3 => if b = true then tk σ2 H3 fun y H4 => tv σ2 H4 fun z H5 => ∃ H6, R y z D H5 H6 ∧ N H6 else N H3)
def tFill (z : HO) (R : V → V → Addr → Hp → Hp → Prop) (wi : TI) (g : TG) (tt : TT) (tk tv : TE) (vs : List Nat) : TE := fun σ H Q => wi σ H fun J H1 => ∀ D, H1 D = none → Rounds R J D g tt tk tv vs σ (upd H1 D z) (Q (.ref D))
abbrev InBlk (X : Cx) (scope : Scope) (F : Cx → Prop) : Prop := ∀ (s : Shared) (H : Hp) (C : Addr) (cl : List (Str × Addr)) (fp : List Addr), F (X.blk s H scope (compEnvC scope cl C X.env) fp)
section
variable {X : Cx} {z : HO} {R : V → V → Addr → Hp → Hp → Prop} {kx vx tg iter : Expr} {ifs : List Expr} {scope : Scope} {own : List (Str × Nat)} {pos : Pos} {wi : TI} {g : TG} {tt : TT} {tk tv : TE}
/-- the whole of a filling comprehension; use: what becomes of the dict at once -/
theorem fill_core {pins : List (Addr × Obj)} {s : Shared} {σ : L2.St} {H : Hp} {Q : VK} {pos' : Pos} {use : Option (Value → Sem Unit)} {Qf : Value → Shared → Prop} (fl : Fill X z R) (calm : X.calm = true) (nod : X.N.Nodup) (hi : PI X tg iter wi) (bk : BlkOk X.N X.env.scope scope own) (hg : InBlk X scope fun Y => PG Y tg g) (ht : InBlk X scope fun Y => PTs Y ifs tt) (hk : InBlk X scope fun Y => PE Y kx tk) (hv : InBlk X scope fun Y => PE Y vx tv)
    (fold : ∀ x, foldedSetIterable iter X.env x = pure x) (I : L2.Inv X pins σ H s) (q0 : tFill z R wi g tt tk tv (own.map (·.2)) σ H Q)
    (last : ∀ D C s' m H', L2.Inv X pins σ H' s' → Q (.ref D) H' → s'.heap.Ns C m → FpOk X pins H' C → compPost (model X.prog X.w) X.A X.xe use Qf (.ref D) C (.ok .next) s') :
    wpAny (model X.prog X.w) X.A (comprehension (.DictComp kx vx [⟨tg, iter, ifs, 0⟩] scope pos) scope X.env pos' newDict false (eval iter X.env) use) Qf X.xe s := by
  have fv : ∀ y ∈ scope.names, y.2 = .free → ∃ c, X.env.cells.lookup y.1 = some c := fun y hy e => (bk.free y hy e).elim (fun k => I.ok.has _ (.inl k)) fun k => I.ok.has _ (.inr k)
  refine wpAny_comprehension_free (use := use) rfl fold (closure_ok fv) bk.kind (fun y hy e => by rw [bk.uniq y hy, e]) (thn (hi.run pins s σ H _ I q0) fun _ sA hA => thn hA fun _ sB hB => ?_)
  obtain ⟨it, fp, tn, J, HB, rfl, IB, T, tB, fB, q⟩ := hB
  refine wpAny_newObj_type (newEnv_comp ?_)
  generalize eD : sB.heap.objs.size = D
  obtain ⟨W, ⟨m0, w0⟩, turn⟩ := q D (IB.hok.fresh (Nat.le_of_eq eD))
  generalize eC : ({ sB with heap := sB.heap.push { cls := .type "dict", data := .dict #[] } } : Shared) = sC
  have hC : sC.heap = sB.heap.push { cls := .type "dict", data := .dict #[] } := by rw [← eC]
  have IC : L2.Inv X pins σ (upd HB D z) sC := by
    rw [← eC]
    exact IB.laid (t' := sB.toks) (fun _ _ e => Heap.get?_push_of_some _ e) (Nat.le_of_eq eD) (by rw [← eD]; exact fl.first _ sB.heap IB.big)
  have fC : ∀ b ∈ fp, FpOk X pins (upd HB D z) b ∧ b < sC.heap.objs.size := fun b hb => by
    obtain ⟨o, e, _⟩ := T.obj _ _ tB b hb
    have lt := Heap.lt_size e
    exact ⟨⟨by rw [upd_ne (by rw [← eD]; exact Nat.ne_of_lt lt)]; exact (fB b hb).1, (fB b hb).2⟩, by rw [hC, Heap.size_push]; exact Nat.lt_succ_of_lt lt⟩
  have tC : tn 0 sC.heap := T.keep _ _ _ tB fun b _ o e => by rw [hC]; exact Heap.get?_push_of_some _ e
  have ID := block_start IC bk nod fC
  generalize ecl : cellsFrom (sC.heap.objs.size + 1) scope.names (cloFrom X.env.cells scope.names []) = cl at ID ⊢
  have pg := hg sC (upd HB D z) sC.heap.objs.size cl fp
  have pt := ht sC (upd HB D z) sC.heap.objs.size cl fp
  have pk := hk sC (upd HB D z) sC.heap.objs.size cl fp
  have pv := hv sC (upd HB D z) sC.heap.objs.size cl fp
  show codeAny _ _ (.compStart (.DictComp kx vx [⟨tg, iter, ifs, 0⟩] scope pos) 0 (.ref it) (.ref D) (compEnvC scope cl sC.heap.objs.size X.env)) _ { sC with heap := pushCells (sC.heap.push { cls := .type "dict", data := .dict #[] }) scope.names }
  generalize ece : compEnvC scope cl sC.heap.objs.size X.env = ce at ID pg pt pk pv ⊢
  have loc : ce.locals = sC.heap.objs.size := by subst ece; rfl
  have no0 : ∀ b ∈ fp, (upd HB D z) b = none := fun b hb => (fC b hb).1.1
  generalize eHC : upd HB D z = HC at IC ID pg pt pk pv w0 no0 fC
  generalize eSD : ({ sC with heap := pushCells (sC.heap.push { cls := .type "dict", data := .dict #[] }) scope.names } : Shared) = sD at ID ⊢
  have tD : tn 0 sD.heap := T.keep _ _ _ tC fun b _ o e => by rw [← eSD]; exact pushCells_keeps _ _ _ _ (Heap.get?_push_of_some _ e)
  generalize eY : X.blk sC HC scope ce fp = Y at ID pg pt pk pv
  have yP : Y.prog = X.prog := by rw [← eY]
  have yw : Y.w = X.w := by rw [← eY]
  have yK : Y.K = X.K := by rw [← eY]
  have yA : Y.A = X.A := by rw [← eY]
  have yc : Y.calm = true := by rw [← eY]; exact calm
  have stay : ∀ {σ' : L2.St} {H' : Hp} {s' : Shared}, L2.Inv Y [] σ' H' s' → (∀ b ∈ fp, H' b = none) → ∀ b ∈ fp, FpOk Y [] H' b := fun {σ' H' s'} I' hn b hb => by
    subst eY
    exact ⟨hn b hb, (I'.ok.exf b hb).1, I'.ok.exfs b hb, .inl hb, fun x c e => (I'.ok.exf b hb).2 x c e, fun p hp => absurd (show p ∈ ([] : List (Addr × Obj)) ++ [] from hp) (by simp)⟩
  have loop : codeAny (model X.prog X.w) X.A (.compLoop (.DictComp kx vx [⟨tg, iter, ifs, 0⟩] scope pos) 0 (.ref it) (.ref D) ce) (compPost (model X.prog X.w) X.A X.xe use Qf (.ref D) sC.heap.objs.size) sD := by
    refine compLoop_anyD (fun n s' => ∃ i H', L2.Inv Y [] (L2.wipe σ (own.map (·.2))) H' s' ∧ tn i s'.heap ∧ (∀ b ∈ fp, H' b = none) ∧ W i n H') ?_ m0 ⟨0, HC, ID, tD, no0, w0⟩
    rintro n s5 ⟨i, H5, I5, t5, n5, w5⟩
    rcases turn i n H5 w5 with ⟨stop, qq⟩ | ⟨go, N, hN, step⟩
    · have td := T.done Y yP yw yK yc i [] s5 _ H5 (fun _ _ => False) I5 (stay I5 n5) t5 stop
      rw [yA] at td
      refine thnF td fun r s6 ⟨hr, I6⟩ => ?_
      subst hr eY
      have I7 : L2.Inv X pins σ H5 s6 := IC.call' (ch := fp) I6.os I6.base I6.hok I6.bare fun b hb => ⟨(fC b hb).1.2.2.2.1, (fC b hb).1.2.1, (fC b hb).1.2.2.2.2.1, (fC b hb).1.2.2.2.2.2⟩
      have nC : H5 sC.heap.objs.size = none := by
        have y : H5 ce.locals = none := I6.free
        rwa [loc] at y
      obtain ⟨m, hm, _⟩ := I6.loc
      have hm : s6.heap.Ns ce.locals m := hm
      rw [loc] at hm
      exact last D sC.heap.objs.size s6 m H5 I7 qq hm (IC.fpOk (Nat.le_refl _) nC)
    · have ti := T.item Y yP yw yK yc i [] s5 _ H5 (fun _ _ => False) I5 (stay I5 n5) t5 go
      rw [yA] at ti
      refine thnF ti fun r s6 ⟨u, hr, h6⟩ => ?_
      subst hr
      refine thnF h6 fun _ s7 ⟨x, H7, I7, r7, y7, t7, n7⟩ => ?_
      have I7' := I7.pinned (stay I7 n7) (T.obj _ _ t7)
      have fin : ∀ {σ8 : L2.St} {s' : Shared} {H' : Hp}, L2.wipe σ8 (own.map (·.2)) = L2.wipe σ (own.map (·.2)) → L2.Inv Y ([] ++ pinsAt fp s7.heap) σ8 H' s' → N H' → ∃ m, m < n ∧ ∃ i H', L2.Inv Y [] (L2.wipe σ (own.map (·.2))) H' s' ∧ tn i s'.heap ∧ (∀ b ∈ fp, H' b = none) ∧ W i m H' := fun {σ8 s' H'} hw I' nx => by
        obtain ⟨m', hm, w'⟩ := hN H' nx
        have pn : ∀ b ∈ fp, ∀ o, s7.heap.get? b = some o → s'.heap.get? b = some o ∧ H' b = none := fun b hb o e =>
          let y := I'.pin (b, o) (List.mem_append_right _ (List.mem_append_right _ (mem_pinsAt hb e)))
          ⟨y.1, y.2.1⟩
        refine ⟨m', hm, i + 1, H', (I'.unpinned (pins := [])).weak (by rw [← hw, wipe_length]) (fun j v e => ?_), T.keep _ _ _ t7 fun b hb o e => (pn b hb o e).1, fun b hb => ?_, w'⟩
        · rw [← hw] at e
          exact (wipe_some e).1
        · obtain ⟨o, e, _⟩ := T.obj _ _ t7 b hb
          exact (pn b hb o e).2
      have st := pg.run _ s7 _ H7 x u _ I7' r7 (step x H7 y7)
      subst eY
      refine thnF st fun _ s8 ⟨σ8, H8, I8, hw8, q8⟩ => thnF (pt.run _ s8 σ8 H8 _ I8 q8) fun b s9 ⟨H9, I9, q9⟩ => ?_
      cases b with
      | false =>
        simp only [Bool.false_eq_true, if_false] at q9 ⊢
        exact fin hw8 I9 q9
      | true =>
        simp only [if_true] at q9 ⊢
        refine thnF (pk.run _ s9 σ8 H9 _ I9 q9) fun _ sK ⟨yk, HK, IK, rK, qK⟩ => thnF (pv.run _ sK σ8 HK _ IK qK) fun _ sV ⟨yv, HV, IV, rV, H6, st6, nx⟩ => ?_
        exact fl.store (X.blk sC HC scope ce fp) rfl rfl rfl _ σ8 HV H6 sV _ yk yv _ _ D _ IV st6 rK rV fun s' I' => fin hw8 I' nx
  exact codeAny_compStart_dict loop (T.self X.A 0 _ _ _ tD loop)
/-- a name takes it at once, on one row -/
theorem ps_setFill {i : Nat} {y : Str} {py spos : Pos} (fl : Fill X z R) (calm : X.calm = true) (nod : X.N.Nodup) (hy : X.N[i]? = some y) (hyl : X.env.scope.names.lookup y = some .local) (hsw : swapsWith (.DictComp kx vx [⟨tg, iter, ifs, 0⟩] scope pos) (some (.Name y py)) spos.line X.env = pure true) (hi : PI X tg iter wi) (bk : BlkOk X.N X.env.scope scope own) (hg : InBlk X scope fun Y => PG Y tg g) (ht : InBlk X scope fun Y => PTs Y ifs tt) (hk : InBlk X scope fun Y => PE Y kx tk) (hv : InBlk X scope fun Y => PE Y vx tv)
    (fold : ∀ x, foldedSetIterable iter X.env x = pure x := by intro _; rfl) : PS X (.Assign [.Name y py] (.DictComp kx vx [⟨tg, iter, ifs, 0⟩] scope pos) spos) (tAsg (tFill z R wi g tt tk tv (own.map (·.2))) (gName i)) := ⟨fun pins s σ H D I h => by
  rw [exec_Assign_Name_used _ _ _ _ hsw]
  refine wpAny_bind (wpAny_standAt (wpAny_bind ?_))
  show wpAny _ X.A (do let _ ← comprehension (.DictComp kx vx [⟨tg, iter, ifs, 0⟩] scope pos) scope X.env (firstIterPos [⟨tg, iter, ifs, 0⟩] pos) newDict false (eval iter X.env) (some (assign (.Name y py) X.env))) _ _ s
  have h : tFill z R wi g tt tk tv (own.map (·.2)) σ H (fun x H1 => gName i x σ H1 D.nx) := h
  refine wpAny_bind (thn (fill_core (Qf := fun _ s' => SP X pins D .next s') fl calm nod hi bk hg ht hk hv fold I h fun L C s' m H' I' q hn f => ?_) fun _ s' hq => wpAny_pure (wpAny_pure hq))
  show wpAny _ _ (assign (.Name y py) X.env (.ref L)) _ _ _
  refine wpAny_assign_Name (store_ok2 (v := V.ref L) I' nod hy (.inl hyl) rfl (fun s2 I2 ⟨a, sb, ha⟩ => ?_) (.inr hyl))
  obtain ⟨f0, f1, f2, f3, f4, f5⟩ := f
  have ca : C ≠ a := ha.elim (fun e => by rw [e]; exact f1) fun e z => f4 y a e z.symm
  exact ⟨m, hn.sameBut sb ca, fun h3 sb3 => ⟨_, H', I2.turned (t' := s2.toks) (fun b o hb e => (sb3.2 b hb).trans e) f0 f1 f3 f4 f5, q⟩⟩⟩
theorem swD_true {gs : List Comprehension} {py : Pos} {y : Str} {l : Nat} {env : PySem.Env} (hk : env.scope.kind = .function) (hy : env.scope.names.lookup y = some .local) (hl : (py.line == pos.line) = true)
    (ha : (scope.names.any fun (n, k) => n == y && (k == .local || k == .cell)) = false) : swapsWith (.DictComp kx vx gs scope pos) (some (.Name y py)) l env = pure true := by
  have ky : env.kindOf y = some .local := hy
  have hb : env.blockKind = .function := by unfold Env.blockKind; rw [hk]; rfl
  unfold swapsWith
  simp only [hb, ky, ha, Expr.pos, hl]
  rfl
end
/-- a store under a tuple of ints and texts -/
def PutT (y v : V) (D : Addr) (H H' : Hp) : Prop := ∃ kvs ks b, y = .ref b ∧ H b = some (.tup (ks.map kV)) ∧ H D = some (.dT kvs) ∧ kvs.length < sizeLine ∧ H' = upd H D (.dT (putK kvs ks v))
theorem fill_tup {X : Cx} (hu : X.A.units + 1 < cLine) : Fill X (.dT []) PutT where
  first := fun H h hb => dt_empty h hb
  store := fun Y hP hw hA pins σ H H' s E y v u r D Q I st ry rv h => by
    obtain ⟨kvs, ks, b, rfl, hb, hD, hl, rfl⟩ := st
    cases (show u = Value.ref b from ry)
    obtain ⟨z, hd, xs, rel, dd⟩ := dt_of I.hok hD
    have hz : xs.length ≤ sizeLine := by rw [← Paired.length rel]; exact z
    have hl' : (putK kvs ks v).length ≤ sizeLine := by have := length_putK kvs ks v; omega
    refine wpAny_dictSet_heap (hsz := hz) (show Y.A.units < cLine by rw [hA]; omega) (key_of I.hok hb) dd fun h' dd' hs => h _ ?_
    obtain ⟨q, es, ep, hq, h2, h3, h4, _, h5⟩ := dd'
    refine d_write I (by rw [hD]; exact True.intro) hs ⟨q, hq⟩ ⟨hl', hd, _, (rel.put ks hb rv).keeps fun c ys ec => ?_, q, es, ep, hq, h2, h3, h4, h5⟩
    rw [upd_ne (ne_of ec hD (fun z => nomatch z))]
    exact ec
end DY
namespace DY
open PySem L2 PySem.Spec PyProof.Rows
variable [Tb]
def keyT : D → R (List Ky)
  | .kt ks => keysOf ks
  | _ => .no
def dtGo (g : Tg) (c : Option Ev) (ek ev : Ev) (vs : List Nat) : List D → List (List Ky × D) → Env → R (List (List Ky × D) × Env)
  | [], acc, ρ => .ok (acc, ρ)
  | d :: ds, acc, ρ => do
    let ρ1 ← g d (wipeS ρ vs)
    let (k, ρ2) ← cond c ρ1
    if k then do
      let (y, ρ3) ← val ek ρ2
      let (z, ρ4) ← val ev ρ3
      let q ← keyT y
      dtGo g c ek ev vs ds (dput acc q z) ρ4
    else dtGo g c ek ev vs ds acc ρ2
def eDt (it : Iv) (g : Tg) (c : Option Ev) (ek ev : Ev) (vs : List Nat) : Ev := fun ρ => do
  let (ds, ρ1) ← it ρ
  if noOw ρ1 vs && decide (ds.length ≤ 1000) then do
    let (acc, ρ2) ← dtGo g c ek ev vs ds [] ρ1
    pure ((.dct acc, true), backS ρ1 ρ2 vs)
  else .no
section
variable {K : PySem.W.Frag} {A : CT} {G G' G1 G2 H H' H1 H2 : Hp} {σ σ2 : L2.St} {ρ ρ1 ρ2 ρ' : Env} {vs : List Nat}
theorem dtGo_cons {g : Tg} {c : Option Ev} {ek ev : Ev} {ds : List D} {acc accE : List (List Ky × D)} {x : D} {ρE : Env} (h : dtGo g c ek ev vs (x :: ds) acc ρ = .ok (accE, ρE)) : ∃ ρa b ρb, g x (wipeS ρ vs) = .ok ρa ∧ cond c ρa = .ok (b, ρb) ∧
    ((b = true ∧ ∃ y ρc z ρd q, val ek ρb = .ok (y, ρc) ∧ val ev ρc = .ok (z, ρd) ∧ keyT y = .ok q ∧ dtGo g c ek ev vs ds (dput acc q z) ρd = .ok (accE, ρE)) ∨ (b = false ∧ dtGo g c ek ev vs ds acc ρb = .ok (accE, ρE))) := by
  obtain ⟨ρa, e1, h⟩ := bind_ok h
  obtain ⟨⟨b, ρb⟩, e2, h⟩ := bind_ok h
  refine ⟨ρa, b, ρb, e1, e2, ?_⟩
  cases b with
  | true =>
    obtain ⟨⟨y, ρc⟩, e3, h⟩ := bind_ok (show (val ek ρb >>= fun z => val ev z.2 >>= fun w => keyT z.1 >>= fun q => dtGo g c ek ev vs ds (dput acc q w.1) w.2) = .ok (accE, ρE) from h)
    obtain ⟨⟨z, ρd⟩, e4, h⟩ := bind_ok h
    obtain ⟨q, e5, h⟩ := bind_ok h
    exact .inl ⟨rfl, y, ρc, z, ρd, q, e3, e4, e5, h⟩
  | false => exact .inr ⟨rfl, h⟩
theorem dt_use {it : Iv} {ws : List Nat} {g : Tg} {c : Option Ev} {ek ev : Ev} {Q : VK} (hws : ∀ i ∈ ws, i ∈ vs) (h : liftE K A (eDt it g c ek ev vs) σ H Q) : tFill (.dT []) PutT (liftI K A it) (liftG K A ws g) (liftC K A c) (liftE K A ek) (liftE K A ev) vs σ H Q := by
  obtain ⟨G, ρ, r, ρ', s, e0, k⟩ := h
  obtain ⟨⟨ds, ρ1⟩, e1, e0⟩ := bind_ok e0
  refine ⟨G, ρ, ds, ρ1, s, e1, fun J G1 H1 n1 wd P hP => ?_⟩
  dsimp only at e0
  split at e0
  · rename_i hno
    rw [Bool.and_eq_true] at hno
    have hlen : ds.length ≤ 1000 := of_decide_eq_true hno.2
    obtain ⟨⟨accE, ρE⟩, e2, e0⟩ := bind_ok e0
    cases e0
    obtain ⟨Gd, Y, w, hG, hY⟩ := wd
    refine ⟨fun i m H' => m = ds.length - i ∧ i ≤ ds.length ∧ ∃ G' ρi acc, LI K A σ G1 H1 ρ1 vs P G' H' ρi (.dct acc) ∧ acc.length ≤ i ∧ dtGo g c ek ev vs (ds.drop i) acc ρi = .ok (accE, ρE), ⟨ds.length, by simp, Nat.zero_le _, G1, ρ1, [], LI.begin n1.st hP ⟨[], upd_same, .nil⟩, Nat.le_refl _, e2⟩, ?_⟩
    rintro i m H2 ⟨rfl, hi, G2, ρi, acc, l, hl, e2⟩
    have hGd := hG G2 H2 ⟨l.ext.gs, l.st.sub⟩
    by_cases hlt : i < ds.length
    · refine .inr ⟨w.goes i H2 hlt hGd, fun H' => i + 1 ≤ ds.length ∧ ∃ G' ρi acc, LI K A σ G1 H1 ρ1 vs P G' H' ρi (.dct acc) ∧ acc.length ≤ i + 1 ∧ dtGo g c ek ev vs (ds.drop (i + 1)) acc ρi = .ok (accE, ρE), fun H' ⟨a, b⟩ => ⟨ds.length - (i + 1), by omega, rfl, a, b⟩, fun x H3 yy => ?_⟩
      obtain ⟨G3, d, n0, hd, rx⟩ := hY i G2 H2 x H3 hlt ⟨l.ext.gs, l.st.sub⟩ (w.yields i H2 x H3 hlt hGd yy)
      rw [List.drop_eq_getElem_cons hlt, (List.getElem?_eq_some_iff.mp hd).2] at e2
      obtain ⟨ρa, b, ρb, ea, eb, ec⟩ := dtGo_cons e2
      refine ⟨G3, wipeS ρi vs, d, ρa, (l.st.nx0 n0).st, rx, ea, fun σ2 st2 ow2 hl2 hw2 => ?_⟩
      have hl2' : σ2.length = σ.length := by rw [hl2, wipe_length]
      have hw2' : ∀ i, i ∉ vs → σ2[i]? = (L2.wipe σ vs)[i]? := fun i hi => hw2 i fun z => hi (hws i z)
      refine ⟨wipe_eq hl2' hw2', cond_use st2 eb fun G4 H4 n4 => ?_⟩
      rcases ec with ⟨rfl, yv, ρc, zv, ρd, q, ey, ez, eq, ec⟩ | ⟨rfl, ec⟩
      · refine iteT (use_val n4.st ey fun v G5 H5 n5 r5 => use_val n5.st ez fun v2 G6 H6 n6 r6 => ?_)
        have n45 := (n4.trans n5).trans n6
        have noP : ¬ OwnS σ2 ρa P := fun ⟨k, z⟩ => l.no n1.st hP k (l.own k P (ow2 k P z))
        have p3 := pend0 l.gP l.hP n0
        obtain ⟨gP, avs, hv, ra⟩ := pend noP p3.1 p3.2 n45
        cases yv with
        | kt kds =>
          obtain ⟨bb, rfl, hb⟩ := key_tup (r5.mono n6.gs) eq n6.st.sub
          exact ⟨_, ⟨avs, q.map kK, bb, rfl, hb, hv, small1000 (by rw [ra.len]; omega), rfl⟩, hlt, G6, ρd, dput acc q zv, l.turn n1.st hP n0 hl2' hw2' ow2 n45 ⟨_, upd_same, ra.put q r6⟩, Nat.le_trans (dput_len acc q zv) (Nat.succ_le_succ hl), ec⟩
        | _ => cases eq
      · exact iteF ⟨hlt, G4, ρb, acc, l.skip n1.st hP n0 hl2' hw2' ow2 n4, Nat.le_succ_of_le hl, ec⟩
    · have : i = ds.length := by omega
      subst this
      refine .inl ⟨w.stops H2 hGd, ?_⟩
      rw [List.drop_length] at e2
      cases e2
      obtain ⟨nn, rr⟩ := l.done n1.st hP hno.1 n1
      exact k _ G2 H2 nn rr
  · cases e0
end
theorem pds_setdt {X : Cx} {A : CT} {st : Stmt} {j : Option Nat} {it : Iv} {vs ws : List Nat} {g : Tg} {c : Option Ev} {mk mv : Ev} {w : Bool} {i : Nat} (hws : ∀ i ∈ ws, i ∈ vs) (h : PS X st (tAsg (tFill (.dT []) PutT (liftI X.K A it) (liftG X.K A ws g) (liftC X.K A c) (liftE X.K A mk) (liftE X.K A mv) vs) (gName i))) (hw : w = true → j ≠ some i) : PDS A j X st (sAsg w i (eDt it g c mk mv vs)) := PS.imp h fun D σ H q => dt_use hws (set_use hw q)
/-! ### a, b = x, y where a name is shared with a block -/
section
variable {X : Cx} {A : CT} {a b : Expr} {ma mb : Ev} {j : Option Nat} {pos : Pos}
end
end DY

set_option Elab.async false
set_option linter.all false
set_option maxRecDepth 100000
set_option maxHeartbeats 4000000
namespace DY
open PySem L2 PySem.Spec PyProof.Rows
variable [Tb]
/-! ### list(s), s a text: its signs -/
section
variable {X : Cx} {A : CT}
end
end DY

set_option Elab.async false
set_option linter.all false
set_option maxRecDepth 100000
set_option maxHeartbeats 4000000
namespace DY
open PySem L2 PySem.Spec PyProof.Rows
variable [Tb]
/-! ### xs[::-1] -/
section
variable {K : PySem.W.Frag} {A : CT} {σ : L2.St} {H : Hp} {Q : VK}
end
end DY

set_option Elab.async false
set_option linter.all false
set_option maxRecDepth 100000
set_option maxHeartbeats 4000000
namespace DY
open PySem L2 PySem.Spec PyProof.Rows
variable [Tb]
/-! ### repr of a list or tuple of plain data -/
def seqD : D → Bool
  | .lst _ => true
  | .fls _ => true
  | .tup _ => true
  | .kt _ => true
  | _ => false
open Classical in
noncomputable def reprD : List D → R Rv
  | [x] => if seqD x = true ∧ dok dep x = true ∧ (toP x).showable = true ∧ (toP x).hasDict = false ∧ (toP x).depth ≤ 60 ∧ (toP x).shown.cps.size ≤ 100000 then .ok (.str (toP x).shown.cps.toList, false) else .no
  | _ => .no
section
variable {X : Cx} {A : CT}
theorem rep_ref {K : PySem.W.Frag} {G : Hp} {v : V} {d : D} (h : seqD d = true) (r : Rep K A G v d) : ∃ a, v = .ref a := by
  cases r <;> first | exact ⟨_, rfl⟩ | cases h
theorem o_repr (hg : X.A.guards = some []) (hu : X.A.units + 65 < cLine) : CallR X (.builtin "repr") (rDn X.K A reprD) := by
  intro pins s σ H xs us Q I r h
  obtain ⟨G, ds, r0, sb, rs, e, k⟩ := h
  unfold reprD at e
  split at e
  · rename_i x
    split at e
    · rename_i hc
      obtain ⟨h1, h2, h3, h4, h5, h6⟩ := hc
      cases e
      obtain ⟨v1, rfl, r1⟩ := rs.inv1
      obtain ⟨u, rfl, ru⟩ := vals1 r
      obtain ⟨a, rfl⟩ := rep_ref h1 r1
      have dp := rep_dp (K := X.K) (A := A) sb _ _ _ h2 r1
      obtain ⟨as, rd⟩ := Dp.reads I _ _ _ dp ru
      obtain rfl : u = Value.ref a := ru
      refine repr_of_reads' rd h3 (fun z => by rw [h4] at z; cases z) hg (by omega) (fun b o e => e) (fun h' t tk hk => ?_) (by show (toP x).shown.cps.size ≤ sizeLine; rw [sizeLine_eq]; omega)
      have I' : Inv X pins σ H { s with heap := h', toks := tk } := I.kept (t' := tk) hk
      refine ⟨.str (toP x).shown, H, I', ⟨t, rfl⟩, ?_⟩
      have := same_end (K := X.K) sb (Rep.str (K := X.K) (A := A) (toP x).shown.cps.toList) k
      rw [S_cps] at this
      exact this
    · cases e
  · cases e
end
end DY

set_option Elab.async false
set_option linter.all false
set_option maxRecDepth 100000
set_option maxHeartbeats 4000000
namespace DY
open PySem L2 PySem.Spec PyProof.Rows
variable [Tb]
/-! ### d.get(k) -/
section
variable {K : PySem.W.Frag} {A : CT} {σ : L2.St} {H : Hp} {Q : VK} {ma mk : Ev} {i : Nat}
end
section
variable {X : Cx} {A : CT} {x : Str} {pos' apos cpos : Pos} {i : Nat} {a e : Expr} {ma me : Ev}
end
end DY

set_option Elab.async false
set_option linter.all false
set_option maxRecDepth 100000
set_option maxHeartbeats 4000000
namespace DY
open PySem L2 PySem.Spec PyProof.Rows
variable [Tb]
/-! ### t[i::k], k written and neither 0 nor 1 -/
section
variable {prog : Program} {w : World} {A : Around} {E : Value → Shared → Prop} {s : Shared}
end
section
variable {X : Cx} {A : CT} {σ : L2.St} {H : Hp} {Q : VK}
end
end DY

set_option Elab.async false
set_option linter.all false
set_option maxRecDepth 100000
set_option maxHeartbeats 4000000
/-! ### an own dict is shown to an expression that keeps no hold of it -/
namespace DY
open PySem L2 PySem.Spec PyProof.Rows
variable [Tb]
section
variable {K : PySem.W.Frag} {A : CT} {G G' H H' : Hp} {σ : L2.St} {ρ ρ' : Env} {p : Addr}
end
end DY

set_option Elab.async false
set_option linter.all false
set_option maxRecDepth 100000
set_option maxHeartbeats 4000000
/-! SLX4: _law_told(lambda: ..) -/
namespace SL
open PySem L2 PySem.Spec PyProof.Rows LamX
section
variable {X : Cx} {pins : List (Addr × Obj)} {σ : L2.St} {H : Hp} {s : Shared}
end
/-! ### the def that tells what a call gives, or the error -/
section
variable {X : Cx}
end
end SL

set_option Elab.async false
set_option linter.all false
set_option maxRecDepth 100000
set_option maxHeartbeats 4000000
/-! ### errors: where a mirror ends with one -/
namespace DY
open PySem L2 PySem.Spec PyProof.Rows
variable [Tb]
section
variable (K : PySem.W.Frag) (A : CT)
end
theorem bind_ex {α β : Type} {r : R α} {f : α → R β} {d : D} (h : (r >>= f) = .ex d) : r = .ex d ∨ ∃ a, r = .ok a ∧ f a = .ex d := by
  cases r with
  | ok a => exact .inr ⟨a, rfl, h⟩
  | ex d' => cases h; exact .inl rfl
  | no => cases h
theorem val_ex {m : Ev} {ρ : Env} {d : D} : val m ρ = .ex d ↔ m ρ = .ex d := by
  unfold val
  constructor
  · intro h
    rcases bind_ex h with h | ⟨a, _, h⟩
    · exact h
    · cases h
  · intro h; rw [h]; rfl
section
variable {K : PySem.W.Frag} {A : CT} {G G' G1 G2 H H' H1 H2 : Hp} {σ : L2.St} {ρ ρ1 ρ2 ρ' : Env} {E : XK} {j : Option Nat} {B : Bs}
end
/-! ### what ends with no error -/
def NE (m : Ev) : Prop := ∀ ρ d, m ρ ≠ .ex d
def NEs (ms : List Ev) : Prop := ∀ ρ d, evs ms ρ ≠ .ex d
def NS (m : Sv) : Prop := ∀ ρ d, m ρ ≠ .ex d
def NI (m : Iv) : Prop := ∀ ρ d, m ρ ≠ .ex d
def NG (g : Tg) : Prop := ∀ x ρ d, g x ρ ≠ .ex d
def N1 (f : D → R Rv) : Prop := ∀ x d, f x ≠ .ex d
def N2 (f : D → D → R Rv) : Prop := ∀ x y d, f x y ≠ .ex d
def NN (f : List D → R Rv) : Prop := ∀ xs d, f xs ≠ .ex d
section
variable {X : Cx} {A : CT} {E : XK} {j : Option Nat} {e : Expr} {m : Ev} {s : Stmt} {ss : List Stmt} {ms : Sv}
end
theorem nex_b {α β : Type} {r : R α} {f : α → R β} (h : ∀ d, r ≠ .ex d) (k : ∀ a d, f a ≠ .ex d) (d : D) : (r >>= f) ≠ .ex d := fun z => by
  rcases bind_ex z with z | ⟨a, _, z⟩
  · exact h d z
  · exact k a d z
theorem ne_val {m : Ev} (h : NE m) (ρ : Env) (d : D) : val m ρ ≠ .ex d := fun z => h ρ d (val_ex.mp z)
theorem ne_isB (x d : D) : isB x ≠ .ex d := by cases x <;> exact fun z => nomatch z
theorem ne_look (ρ : Env) (i : Nat) (d : D) : look ρ i ≠ .ex d := fun z => by unfold look at z; split at z <;> cases z
theorem ne_pure {α : Type} {a : α} (d : D) : (pure a : R α) ≠ .ex d := fun z => nomatch z
section
variable {f g : D → D → R Rv} {f1 : D → R Rv} {fn : List D → R Rv} {a b c t : Ev} {ms : List Ev} {i : Nat}
theorem ne_var : NE (eVar i) := fun ρ d z => by unfold eVar at z; split at z <;> cases z
theorem ne_move : NE (eMove i) := fun ρ d z => by unfold eMove at z; split at z <;> cases z
theorem ne_c {x : D} : NE (eC x) := fun ρ d z => nomatch z
theorem ne_c0 {x : D} : NE (eC0 x) := fun ρ d z => nomatch z
theorem ne_bin (hf : N2 f) (ha : NE a) (hb : NE b) : NE (eBin f a b) := fun ρ d => nex_b (ne_val ha ρ) (fun x => nex_b (ne_val hb _) fun y => nex_b (hf _ _) fun _ => ne_pure) d
theorem ne_un (hf : N1 f1) (ha : NE a) : NE (eUn f1 a) := fun ρ d => nex_b (ne_val ha ρ) (fun x => nex_b (hf _) fun _ => ne_pure) d
theorem ne_bor (hf : N2 f) (hb : NE b) : NE (eBor f i b) := fun ρ d => nex_b (ne_look ρ i) (fun _ => nex_b (ne_val hb ρ) fun y => nex_b (ne_look _ i) fun _ => nex_b (hf _ _) fun _ => ne_pure) d
theorem ne_borR (hf : N2 f) (ha : NE a) : NE (eBorR f a i) := fun ρ d => nex_b (ne_val ha ρ) (fun y => nex_b (ne_look _ i) fun _ => nex_b (hf _ _) fun _ => ne_pure) d
theorem ne_bor1 (hf : N1 f1) : NE (eBor1 f1 i) := fun ρ d => nex_b (ne_look ρ i) (fun _ => nex_b (hf _) fun _ => ne_pure) d
theorem nes_nil : NEs [] := fun ρ d z => by cases (show R.ok (([] : List D), ρ) = .ex d from z)
theorem nes_cons (ha : NE a) (h : NEs ms) : NEs (a :: ms) := fun ρ d => nex_b (ne_val ha ρ) (fun _ => nex_b (h _) fun _ => ne_pure) d
theorem ne_n (hf : NN fn) (h : NEs ms) : NE (eN fn ms) := fun ρ d => nex_b (h ρ) (fun _ => nex_b (hf _) fun _ => ne_pure) d
theorem ne_if (ht : NE t) (ha : NE a) (hb : NE b) : NE (eIf t a b) := fun ρ d => nex_b (ne_val ht ρ) (fun x => nex_b (ne_isB _) fun c d => by cases c; exact hb _ d; exact ha _ d) d
theorem ne_and (ha : NE a) (hb : NE b) : NE (eAnd a b) := fun ρ d => nex_b (ne_val ha ρ) (fun x => nex_b (ne_isB _) fun c d => by cases c; exact fun z => nomatch z; exact hb _ d) d
theorem ne_or (ha : NE a) (hb : NE b) : NE (eOr a b) := fun ρ d => nex_b (ne_val ha ρ) (fun x => nex_b (ne_isB _) fun c d => by cases c; exact hb _ d; exact fun z => nomatch z) d
theorem ne_not (ha : NE a) : NE (eNot a) := fun ρ d => nex_b (ne_val ha ρ) (fun x => nex_b (ne_isB _) fun c => ne_pure) d
theorem ne_chain (hf : N2 f) (hg : N2 g) (ha : NE a) (hb : NE b) (hc : NE c) : NE (eChain f g a b c) := fun ρ d => nex_b (ne_val ha ρ) (fun x => nex_b (ne_val hb _) fun y => nex_b (hf _ _) fun r => nex_b (ne_isB _) fun k d => by cases k; exact fun z => nomatch z; exact nex_b (ne_val hc _) (fun z => nex_b (hg _ _) fun _ => ne_pure) d) d
theorem ne_get {h3 : D → D → D → R Rv} (hf : ∀ x y z d, h3 x y z ≠ .ex d) (ha : NE a) (hb : NE b) (hc : NE c) : NE (eGet h3 a b c) := fun ρ d => nex_b (ne_val ha ρ) (fun x => nex_b (ne_val hb _) fun y => nex_b (ne_val hc _) fun z => nex_b (hf _ _ _) fun _ => ne_pure) d
end
section
variable {g : Tg} {gs : List Tg} {it : Iv} {c : Option Ev} {e ek ev : Ev} {vs : List Nat} {i : Nat} {a b : Ev} {s s' : Sv} {w : Bool}
theorem ng_n : NG (gN i) := fun x ρ d z => nomatch z
theorem ng_go : (∀ g ∈ gs, NG g) → ∀ xs ρ d, gGo gs xs ρ ≠ .ex d := fun h => by
  induction gs with
  | nil => intro xs ρ d z; cases xs <;> cases z
  | cons g gs ih =>
    intro xs ρ d
    cases xs with
    | nil => exact fun z => nomatch z
    | cons x xs => exact nex_b (h g (List.mem_cons_self ..) x ρ) (fun ρ1 => ih (fun g hg => h g (List.mem_cons_of_mem _ hg)) xs ρ1) d
theorem ng_t (h : ∀ g ∈ gs, NG g) : NG (gT gs) := fun x ρ d z => by
  unfold gT at z
  split at z
  · exact ng_go h _ _ _ z
  · exact ng_go h _ _ _ z
  · cases z
theorem ngs_nil : ∀ g ∈ ([] : List Tg), NG g := fun g h => nomatch h
theorem ngs_cons (h : NG g) (r : ∀ g ∈ gs, NG g) : ∀ x ∈ g :: gs, NG x := fun x hx => by
  rcases List.mem_cons.mp hx with rfl | hx
  · exact h
  · exact r x hx
theorem ne_items (x d : D) : items x ≠ .ex d := by cases x <;> exact fun z => nomatch z
theorem ni_val (h : NE e) : NI (iVal e) := fun ρ d => nex_b (ne_val h ρ) (fun x => nex_b (ne_items _) fun _ => ne_pure) d
theorem ni_range {ms : List Ev} (h : NEs ms) : NI (iRange ms) := fun ρ d => nex_b (h ρ) (fun x d => by dsimp only; split <;> (try split) <;> exact fun z => nomatch z) d
theorem ni_en (h : NE e) : NI (iEn e) := fun ρ d => nex_b (ne_val h ρ) (fun x => nex_b (fun d z => ne_items _ _ z) fun _ => ne_pure) d
theorem ni_keys : NI (iKeys i) := fun ρ d z => by unfold iKeys at z; split at z <;> cases z
def NC : Option Ev → Prop
  | none => True
  | some t => NE t
theorem ne_cond (h : NC c) (ρ : Env) (d : D) : cond c ρ ≠ .ex d := by
  cases c with
  | none => exact fun z => nomatch z
  | some t => exact nex_b (ne_val h ρ) (fun x => nex_b (ne_isB _) fun _ => ne_pure) d
theorem ne_lc (hi : NI it) (hg : NG g) (hc : NC c) (he : NE e) : NE (eLc it g c e vs) := fun ρ d => nex_b (hi ρ) (fun x d => by
  dsimp only
  split
  · refine nex_b (fun d => ?_) (fun _ => ne_pure) d
    have : ∀ ds acc ρ d, lcGo g c e vs ds acc ρ ≠ .ex d := fun ds => by
      induction ds with
      | nil => exact fun _ _ _ z => nomatch z
      | cons x ds ih =>
        intro acc ρ d
        exact nex_b (hg x _) (fun ρ1 => nex_b (ne_cond hc _) fun k d => by
          dsimp only
          split
          · exact nex_b (ne_val he _) (fun y => ih _ _) d
          · exact ih _ _ d) d
    exact this _ _ _ _
  · exact fun z => nomatch z) d
theorem ns_next : NS sNext := fun ρ d z => nomatch z
theorem ns_no : NS sNo := fun ρ d z => nomatch z
theorem ns_seq (h : NS s) (h' : NS s') : NS (sSeq s s') := fun ρ d => nex_b (h ρ) (fun x d => by dsimp only; split; exact h' _ d; exact fun z => nomatch z) d
theorem ns_asg (h : NE e) : NS (sAsg w i e) := fun ρ d => nex_b (h ρ) (fun _ => ne_pure) d
theorem ns_expr (h : NE e) : NS (sExpr e) := fun ρ d => nex_b (ne_val h ρ) (fun _ => ne_pure) d
theorem ns_ret (h : NE e) : NS (sRet e) := fun ρ d => nex_b (h ρ) (fun _ => ne_pure) d
theorem ns_retV : NS (sRetV i) := fun ρ d => nex_b (ne_move ρ) (fun _ => ne_pure) d
theorem ns_retN : NS sRetN := fun ρ d z => nomatch z
theorem ns_if (ht : NE e) (ha : NS s) (hb : NS s') : NS (sIf e s s') := fun ρ d => nex_b (ne_val ht ρ) (fun x => nex_b (ne_isB _) fun c d => by cases c; exact hb _ d; exact ha _ d) d
theorem ns_asgT (hg : NG g) (h : NE e) : NS (sAsgT g e) := fun ρ d => nex_b (ne_val h ρ) (fun x => nex_b (hg _ _) fun _ => ne_pure) d
theorem ns_fld {cc k : Nat} (h : NE e) : NS (sFld cc k e) := fun ρ d => nex_b (ne_val h ρ) (fun x d => by dsimp only; split <;> (try split) <;> exact fun z => nomatch z) d
theorem ns_par {k : Nat} (ha : NE a) (hb : NE b) : NS (sPar w i k a b) := fun ρ d => nex_b (ha ρ) (fun x => nex_b (hb _) fun _ => ne_pure) d
end
/-! operations -/
theorem n2_no : N2 no2 := fun _ _ _ z => nomatch z
theorem n1_no : N1 no1 := fun _ _ z => nomatch z
theorem n2_add {own : D → D → R Rv} (h : N2 own) : N2 (addD own) := fun x y d z => by unfold addD at z; split at z <;> first | exact h _ _ _ z | (split at z <;> cases z) | cases z
theorem n2_sub {own : D → D → R Rv} (h : N2 own) : N2 (subD own) := fun x y d z => by unfold subD at z; split at z <;> first | exact h _ _ _ z | (split at z <;> cases z) | cases z
theorem n2_mul {own : D → D → R Rv} (h : N2 own) : N2 (mulD own) := fun x y d z => by unfold mulD at z; split at z <;> first | exact h _ _ _ z | (split at z <;> cases z) | cases z
theorem n2_fdiv : N2 fdivD := fun x y d z => by unfold fdivD at z; split at z <;> first | (split at z <;> cases z) | cases z
theorem n2_mod : N2 modD := fun x y d z => by unfold modD at z; split at z <;> first | (split at z <;> cases z) | cases z
theorem n2_pow : N2 powD := fun x y d z => by unfold powD at z; split at z <;> first | (split at z <;> cases z) | cases z
theorem n1_neg {own : D → R Rv} (h : N1 own) : N1 (negD own) := fun x d z => by unfold negD at z; split at z <;> first | exact h _ _ z | cases z
theorem n2_lt : N2 ltD := fun x y d z => by unfold ltD at z; split at z <;> cases z
theorem n2_le : N2 leD := fun x y d z => by unfold leD at z; split at z <;> cases z
theorem n2_gt : N2 gtD := fun x y d z => by unfold gtD at z; split at z <;> cases z
theorem n2_ge : N2 geD := fun x y d z => by unfold geD at z; split at z <;> cases z
theorem n2_eq {own : D → D → R Rv} (h : N2 own) : N2 (eqD own) := fun x y d z => by
  unfold eqD at z
  split at z
  · cases z
  · cases z
  · cases z
  · unfold eqG at z
    split at z
    · cases z
    · exact h _ _ _ z
theorem n2_ne {own : D → D → R Rv} (h : N2 own) : N2 (neD own) := fun x y d z => by
  unfold neD at z
  split at z
  · cases z
  · cases z
  · cases z
  · unfold neG at z
    split at z
    · cases z
    · exact nex_b (h _ _) (fun r => nex_b (ne_isB _) fun b d z => by cases z) d z
theorem n2_isN : N2 isN := fun x y d z => by unfold isN at z; split at z <;> cases z
theorem n2_notN : N2 notN := fun x y d z => by unfold notN at z; split at z <;> cases z
theorem ne_key (x d : D) : keyOf x ≠ .ex d := fun z => by cases x <;> cases z
theorem ne_keys : ∀ (xs : List D) (d : D), keysOf xs ≠ .ex d
  | [], d => fun z => by cases (show R.no = R.ex d from z)
  | [x], d => nex_b (ne_key x) (fun _ => ne_pure) d
  | x :: y :: xs, d => nex_b (ne_key x) (fun _ => nex_b (ne_keys (y :: xs)) fun _ => ne_pure) d
theorem ne_inB (x y d : D) : inB x y ≠ .ex d := fun z => by
  unfold inB at z
  split at z <;> first | exact nex_b (ne_keys _) (fun _ => ne_pure) d z | (split at z <;> cases z) | cases z
theorem n2_in : N2 inD := fun x y d => nex_b (ne_inB x y) (fun b d z => by cases z) d
theorem n2_nin : N2 ninD := fun x y d => nex_b (ne_inB x y) (fun b d z => by cases z) d
theorem ne_opt (o : Option D) (d : D) : opt o ≠ .ex d := by cases o <;> exact fun z => nomatch z
theorem n2_ix : N2 ixD := fun x y d z => by
  unfold ixD at z
  split at z <;> first | exact ne_opt _ _ z | (split at z <;> first | exact ne_opt _ _ z | cases z) | exact nex_b (ne_keys _) (fun _ => ne_opt _) d z | cases z
theorem ne_part {e : Option Ev} (h : NC e) (ρ : Env) (d : D) : part e ρ ≠ .ex d := by
  cases e with
  | none => exact fun z => by cases z
  | some e => exact nex_b (ne_val h ρ) (fun x d z => by dsimp only at z; split at z <;> cases z) d
theorem ne_slice {a : Ev} {lo hi : Option Ev} (ha : NE a) (hl : NC lo) (hh : NC hi) : NE (eSlice a lo hi) := fun ρ d => nex_b (ne_val ha ρ) (fun x => nex_b (ne_part hl _) fun l => nex_b (ne_part hh _) fun h => nex_b (fun d z => by unfold sliceD at z; split at z <;> first | (split at z <;> cases z) | cases z) fun _ => ne_pure) d
theorem n1_len {own : D → R Rv} (h : N1 own) : N1 (lenB own) := fun x d z => by unfold lenB at z; split at z <;> first | exact h _ _ z | (split at z <;> cases z) | cases z
theorem nn_len {own : D → R Rv} (h : N1 own) : NN (lenD own) := fun xs d z => by unfold lenD at z; split at z; exact n1_len h _ _ z; cases z
theorem nn_isi : NN isiD := fun xs d z => by unfold isiD at z; split at z <;> first | (split at z <;> cases z) | cases z
theorem nn_abs : NN absD := fun xs d z => by unfold absD at z; split at z <;> cases z
theorem nn_int : NN intD := fun xs d z => by unfold intD at z; split at z <;> cases z
theorem ne_bools : ∀ (xs : List D) (d : D), boolsOf xs ≠ .ex d
  | [], d => fun z => by cases (show R.ok _ = R.ex d from z)
  | x :: xs, d => fun z => by
    cases x <;> first | exact nex_b (ne_bools xs) (fun _ => ne_pure) d z | cases z
theorem nn_all : NN allD := fun xs d z => by unfold allD at z; split at z; exact nex_b (ne_bools _) (fun _ d z => by cases z) d z; cases z
theorem nn_any : NN anyD := fun xs d z => by unfold anyD at z; split at z; exact nex_b (ne_bools _) (fun _ d z => by cases z) d z; cases z
theorem ne_strs : ∀ (xs : List D) (d : D), strsOf xs ≠ .ex d
  | [], d => fun z => by cases (show R.ok _ = R.ex d from z)
  | x :: xs, d => fun z => by
    cases x <;> first | exact nex_b (ne_strs xs) (fun _ => ne_pure) d z | cases z
theorem nn_tuple : NN tupleD := fun xs d z => by unfold tupleD at z; split at z <;> cases z
theorem nn_tup : NN mkTup := fun xs d z => by unfold mkTup at z; split at z <;> cases z
theorem nn_lst : NN mkLst := fun xs d z => by unfold mkLst at z; split at z <;> cases z
theorem nn_mkey : NN mkKey := fun xs d z => by unfold mkKey at z; split at z <;> cases z
theorem n2_join : N2 joinB := fun x y d z => by
  unfold joinB joinD at z
  split at z
  · exact nex_b (ne_strs _) (fun _ d z => by split at z <;> cases z) d z
  · cases z
theorem n1_fld {c k : Nat} : N1 (fldD c k) := fun x d z => by unfold fldD at z; split at z; split at z; exact ne_opt _ _ z; cases z; cases z
theorem n3_get (x y z d : D) : dgetD x y z ≠ .ex d := fun h => by unfold dgetD at h; split at h <;> first | exact nex_b (ne_keys _) (fun _ _ z => by cases z) d h | cases h
/-! calls that are asked for no error -/
def npR {α : Type} : R α → R α
  | .ex _ => .no
  | r => r
theorem ne_np {α : Type} (r : R α) (d : D) : npR r ≠ .ex d := by cases r <;> exact fun z => nomatch z
/-- a def, asked for no error -/
def pF (F : Fn) : Fn := fun ds => npR (F ds)
def pR (F : FnR) : FnR := fun ds d => npR (F ds d)
def p2 (f : D → D → R Rv) : D → D → R Rv := fun x y => npR (f x y)
theorem nn_pF {F : Fn} : NN (pF F) := fun xs d => ne_np _ d
theorem n2_p {f : D → D → R Rv} : N2 (p2 f) := fun x y d => ne_np _ d
end DY

set_option Elab.async false
set_option linter.all false
set_option maxRecDepth 100000
set_option maxHeartbeats 4000000
/-! ### rules where an error comes -/
namespace DY
open PySem L2 PySem.Spec PyProof.Rows
variable [Tb]
section
variable {K : PySem.W.Frag} {A : CT} {G G' G1 G2 H H' H1 H2 : Hp} {σ : L2.St} {ρ ρ1 ρ2 ρ' : Env} {E : XK} {j : Option Nat} {B : Bs} {Q Q' : VK} {ma mb : Ev} {ms : List Ev}
end
section
variable {X : Cx} {A : CT} {CX : CXT} {k n : Nat} {f C : Addr} {fd : FuncData} {ps knm : List Str} {E : XK} {x m : Str} {p pos apos : Pos} {a b e : Expr} {es : List Expr} {ma mb : Ev} {ms ks : List Ev} {kws : List Keyword}
/-! methods -/
end
end DY

set_option Elab.async false
set_option linter.all false
set_option maxRecDepth 100000
set_option maxHeartbeats 4000000
namespace DY
open PySem L2 PySem.Spec PyProof.Rows
variable [Tb]
section
variable {X : Cx} {A : CT} {E : XK} {j : Option Nat} {st : Stmt} {rest : List Stmt} {m m' : Sv} {e c : Expr} {me mc : Ev} {pos pos' : Pos}
/-! a loop -/
end
/-! ### a def's promise -/
section
variable {K : PySem.W.Frag} {A : CT} {H : Hp} {Q : VK}
end
end DY

set_option Elab.async false
set_option linter.all false
set_option maxRecDepth 100000
set_option maxHeartbeats 4000000
namespace DY
open PySem L2 PySem.Spec PyProof.Rows LamX
/-! ### what a lambda sees: the slots that it names, their objects given up -/
variable [Tb]
section
variable {K : PySem.W.Frag} {A : CT} {G G' G1 G2 H H' H1 H2 : Hp} {σ : L2.St} {ρ ρ1 ρ2 ρ' : Env} {Q Q' : VK}
end
end DY

set_option Elab.async false
set_option linter.all false
set_option maxRecDepth 100000
set_option maxHeartbeats 4000000
/-! ### the def that tells the classes and the attribute of an error -/
namespace DY
open PySem L2 PySem.Spec PyProof.Rows LamX
section
variable {K : PySem.W.Frag} {A A' : CT} {G : Hp}
def isStr : D → Bool
  | .str _ => true
  | _ => false
def texts : D → Bool
  | .lst ds => ds.all isStr
  | _ => false
end
variable [Tb]
section
variable {X : Cx} {A : CT} {c : Nat} {x : D} {e : Expr} {me : Ev} {pos : Pos}
end
section
variable {P : Program} {w : World} {K : PySem.W.Frag} {mg : Str → Option Value} {base : Heap} {x qual e : Str} {f : Addr} {fd : FuncData} {N : List Str} {k n : Nat} {A : CT} {mb : Nat → D → Sv} {l : List Nat}
end
end DY

set_option Elab.async false
set_option linter.all false
set_option maxRecDepth 100000
set_option maxHeartbeats 4000000
/-! ### told(lambda: ..); defs that are asked for no error -/
namespace DY
open PySem L2 PySem.Spec PyProof.Rows LamX
variable [Tb]
section
variable {X : Cx} {A : CT}
theorem pe_or {e : Expr} {t t' : TE} (h : PE X e t) (h' : PE X e t') : PE X e (fun σ H Q => t σ H Q ∨ t' σ H Q) := ⟨fun pins s σ H Q I q => q.elim (h.run pins s σ H Q I) (h'.run pins s σ H Q I)⟩
end
/-! raise, where no error is asked for -/
/-! a def that is asked for no error -/
section
variable {P : Program} {w : World} {K : PySem.W.Frag} {mg : Str → Option Value} {base : Heap} {CX : CXT} {k n j : Nat} {f : Addr} {fd : FuncData} {ps : List Str} {A : CT}
end
section
variable {f : D → D → R Rv} {F : Fn} {FR : FnR} {a : Ev} {ms ks : List Ev} {i c : Nat} {g : List D → List D → List D}
theorem ne_isIns (x d : D) : isIns c x ≠ .ex d := fun z => by unfold isIns at z; split at z <;> (try split at z) <;> cases z
theorem ne_meth (hf : NN F) (ha : NE a) (hm : NEs ms) : NE (eMeth c F a ms) := fun ρ d => nex_b (ne_val ha ρ) (fun x => nex_b (ne_isIns _) fun _ => nex_b (hm _) fun _ => nex_b (hf _) fun _ => ne_pure) d
theorem ne_methK (hf : NN F) (ha : NE a) (hm : NEs ms) (hk : NEs ks) : NE (eMethK c F g a ms ks) := fun ρ d => nex_b (ne_val ha ρ) (fun x => nex_b (ne_isIns _) fun _ => nex_b (hm _) fun _ => nex_b (hk _) fun _ => nex_b (hf _) fun _ => ne_pure) d
theorem ne_nk (hf : NN F) (hm : NEs ms) (hk : NEs ks) : NE (eNK F g ms ks) := fun ρ d => nex_b (hm ρ) (fun _ => nex_b (hk _) fun _ => nex_b (hf _) fun _ => ne_pure) d
theorem nn_mk {init : FnR} : NN (mkObj c (pR init)) := fun xs d => nex_b (ne_np _) (fun r d z => by dsimp only at z; split at z <;> cases z) d
theorem nn_mkD {init : FnR} {dds : List D} : NN (fun xs => mkObj c (pR init) (xs ++ dds)) := fun xs d => nn_mk _ d
theorem ne_callR (hm : NEs ms) (hk : NEs ks) : NE (eCallR (pR FR) ms i ks) := fun ρ d => nex_b (ne_look ρ i) (fun _ => nex_b (hm _) fun _ => nex_b (hk _) fun _ d z => by
  dsimp only at z
  split at z
  · exact nex_b (ne_np _) (fun _ => ne_pure) d z
  · cases z) d
theorem ne_app (hm : NEs ms) : NE (eMut appendM i ms) := fun ρ d => nex_b (ne_look ρ i) (fun _ => nex_b (fun d z => by unfold isL at z; split at z <;> cases z) fun _ => nex_b (hm _) fun _ d z => by
  dsimp only at z
  split at z
  · exact nex_b (fun d z => by unfold appendM at z; split at z <;> (try split at z) <;> cases z) (fun _ => ne_pure) d z
  · cases z) d
end
end DY

set_option Elab.async false
set_option linter.all false
set_option maxRecDepth 100000
set_option maxHeartbeats 4000000
/-! ### list.count of truths -/
namespace DY
open PySem L2 PySem.Spec PyProof.Rows LamX
variable [Tb]
def eqb (b : Bool) : Value → Bool
  | .bool c => c == b
  | _ => false
def countB : D → D → R Rv
  | .lst ds, .bl b => do
    let bs ← boolsOf ds
    .ok (.int (bs.count b : Nat), false)
  | _, _ => .no
theorem n2_sel {g : D → D → Bool} {f h : D → D → R Rv} (hf : N2 f) (hh : N2 h) : N2 (sel g f h) := fun x y d z => by
  unfold sel at z
  split at z
  · exact hf _ _ _ z
  · exact hh _ _ _ z
theorem n1_sel1 {g : D → Bool} {f h : D → R Rv} (hf : N1 f) (hh : N1 h) : N1 (sel1 g f h) := fun x d z => by
  unfold sel1 at z
  split at z
  · exact hf _ _ z
  · exact hh _ _ z
theorem n2_pF {F : Fn} : N2 fun x y => pF F [x, y] := fun x y d => nn_pF _ d
theorem n2_pFs {F : Fn} : N2 fun x y => pF F [y, x] := fun x y d => nn_pF _ d
theorem n1_pF {F : Fn} : N1 fun x => pF F [x] := fun x d => nn_pF _ d
theorem bools_vals {bs : List Bool} {us : List Value} (h : Vals (bs.map V.bl) us) : us = bs.map Value.bool := by
  induction bs generalizing us with
  | nil => cases h; rfl
  | cons b bs ih => cases h with | cons r rs => cases r; rw [ih rs]; rfl
theorem count_bools (bs : List Bool) (b : Bool) : (bs.map Value.bool).countP (eqb b) = bs.count b := by
  induction bs with
  | nil => rfl
  | cons c bs ih =>
    rw [List.map_cons, List.countP_cons, List.count_cons, ih]
    rfl
def rCntB (K : PySem.W.Frag) : V → List V → Hp → VK → Prop := fun x xs H Q => ∃ (p : Addr) (bs : List Bool) (b : Bool), x = .ref p ∧ xs = [.bl b] ∧ SqL K H p (bs.map V.bl) ∧ Q (.int (bs.count b : Nat)) H
section
variable {X : Cx} {A : CT} {o e : Expr} {mo me : Ev} {apos pos : Pos}
theorem mt_countB : MtR X "list.count" (rCntB X.K) := by
  intro pins s σ H x xs v us Q I rx rxs h
  obtain ⟨p, bs, k, rfl, rfl, hs, q⟩ := h
  cases rx
  obtain ⟨u, rfl, ru⟩ := rxs.one
  cases ru
  obtain ⟨its, rv, ⟨⟨cls, dd, data, sl⟩, n, ho, hc, hdn, hd⟩, hlen⟩ := I.list hs
  simp only at hc hd
  subst hc hd
  have hi := bools_vals rv
  subst hi
  refine call_meets PySem.F.slot_list_count ⟨_, ho, rfl⟩ PySem.F.entry_list_count (PySem.F.args_list_count_2 _ _)
    (SeqAt.list_countAt p (bs.map Value.bool).toArray n dd sl (.bool k) (eqb k)) ⟨ho, fun y hy => ?_, ?_⟩
  · obtain ⟨c, _, rfl⟩ := List.mem_map.mp (show y ∈ bs.map Value.bool by simpa using hy)
    exact SeqAt.EqAt.bool_bool c k
  · refine ⟨.int (bs.count k : Nat), H, I.tok _, ⟨s.toks, ?_⟩, q⟩
    rw [← count_bools]
end
section
variable {X : Cx} {A : CT} {o e : Expr} {mo me : Ev} {apos pos : Pos}
theorem pd_count (ho : PD A X o mo) (ha : PDA A X [e] [me]) (hx : ∀ {r : V → List V → Hp → VK → Prop}, MtR X "list.count" r → PE X (.Call (.Attribute o "count" apos) [e] [] pos) (tBM X.K "list" r (liftE X.K A mo) (liftA X.K A [me]))) :
    PD A X (.Call (.Attribute o "count" apos) [e] [] pos) (eBin countB mo me) := PE.imp (hx mt_countB) fun σ H Q h => by
  obtain ⟨G, ρ, r, ρ', s, e, k⟩ := h
  obtain ⟨⟨x, ρ1⟩, e1, e⟩ := bind_ok e
  obtain ⟨⟨y, ρ2⟩, e2, e⟩ := bind_ok e
  obtain ⟨r1, e3, e⟩ := bind_ok e
  obtain rfl : ρ2 = ρ' := by cases e; rfl
  obtain rfl : r1 = r := by cases e; rfl
  unfold countB at e3
  split at e3
  · rename_i ds b _
    obtain ⟨bs, e4, e3⟩ := bind_ok e3
    cases e3
    refine use_val s e1 fun v G1 H1 n1 r1 => ?_
    cases r1 with
    | lst h rs =>
      have evv : evs [me] ρ1 = .ok ([.bl b], ρ2) := by show (do let (x, ρ1) ← val me ρ1; let (xs, ρ2) ← evs [] ρ1; pure (x :: xs, ρ2)) = _; rw [e2]; rfl
      refine ⟨(.inl ⟨rfl, _, .inl (.inl (n1.st.sub.lst h))⟩), G1, ρ1, _, _, n1.st, evv, fun vs G2 H2 n2 r2 => ?_⟩
      obtain ⟨v2, rfl, r3⟩ := r2.inv1
      cases r3
      have hb := bools_rep rs e4
      subst hb
      exact ⟨_, bs, _, rfl, rfl, .inl (.inl (n2.st.sub.lst (n2.gs _ _ h))), k _ _ _ (n1.trans n2) (RepR.of (.int _))⟩
  · cases e3
end
end DY

set_option Elab.async false
set_option linter.all false
set_option maxRecDepth 100000
set_option maxHeartbeats 1000000
namespace ZG
open PySem RZ
open PySem.Sem (wp)
section
variable {prog : Program} {w : World} {A : Around} {E : Value → Shared → Prop} {s : Shared}
end
end ZG

set_option Elab.async false
set_option linter.all false
set_option maxRecDepth 100000
set_option maxHeartbeats 1000000
/-! zip of any two of: a list, a tuple, a text -/
namespace ZG
open PySem PySem.Spec PyProof.Rows L2 RZ
section
variable {X : Cx} {pins : List (Addr × Obj)} {σ : L2.St} {H : Hp} {s : Shared} {S : Sv} {xs ys : List V} {t : Tok} {i : Addr} {k : Nat}
end
end ZG

set_option Elab.async false
set_option linter.all false
set_option maxRecDepth 100000
set_option maxHeartbeats 4000000
/-! ### zip of two, enumerate over a text -/
namespace DY
open PySem L2 PySem.Spec PyProof.Rows ZG
variable [Tb]
section
variable {K : PySem.W.Frag} {A : CT} {G G' H : Hp} {X : Cx} {tg e e2 : Expr} {me me2 : Ev} {p pos tpos : Pos} {elts : List Expr} {kk : Nat}
end
end DY

set_option Elab.async false
set_option linter.all false
set_option maxRecDepth 100000
set_option maxHeartbeats 4000000
/-! ### divmod, s[i], n = .., list.index -/
namespace DY
open PySem L2 PySem.Spec PyProof.Rows
variable [Tb]
section
variable {X : Cx} {A : CT} {o e b : Expr} {mo me mb : Ev} {apos pos pos' p tp : Pos} {x n : Str} {i j kk : Nat} {jo : Option Nat}
/-! ### list.index -/
end
end DY
/-! ### list(range(n)) -/
namespace DY
open PySem L2 PySem.Spec PyProof.Rows
variable [Tb]
section
variable {X : Cx} {A : CT} {e : Expr} {me : Ev} {p pos p2 pos2 : Pos}
end
end DY
/-! ### is True, is False of truths -/
namespace DY
open PySem L2 PySem.Spec PyProof.Rows
variable [Tb]
section
variable {X : Cx} {A : CT}
end
end DY

set_option Elab.async false
set_option linter.all false
set_option maxRecDepth 100000
set_option maxHeartbeats 4000000
/-! SLX5: a lambda with parameters, called in the def that got it -/
namespace SL
open PySem L2 PySem.Spec PyProof.Rows LamX
section
variable {X : Cx} {pins : List (Addr × Obj)} {σ : L2.St} {H HZ : Hp} {s s1 : Shared}
end
end SL

set_option Elab.async false
set_option linter.all false
set_option maxRecDepth 100000
set_option maxHeartbeats 4000000
/-! SLX6: defs that are called with the caught error and more; _law_caught(lambda: ..) -/
namespace SL
open PySem L2 PySem.Spec PyProof.Rows LamX
abbrev SpXn := Value → Option Addr → List V → Hp → VK → Prop
section
variable {P : Program} {w : World} {K : PySem.W.Frag} {mg : Str → Option Value} {base : Heap} {x qual : Str} {f : Addr} {fd : FuncData} {N ps : List Str} {k : Nat} {sp : SpXn}
end
/-! ### g(e, ..), in the suite -/
section
variable {X : Cx} {a f : Addr} {oe : Obj} {cls : Value} {d : Option Addr} {pn : List (Addr × Obj)} {x e : Str} {k i : Nat} {fd : FuncData} {sp : SpXn} {ps : List Str} {es : List Expr} {ta : TA} {p p2 pos : Pos}
end
/-! ### _law_caught -/
section
variable {X : Cx}
end
end SL

set_option Elab.async false
set_option linter.all false
set_option maxRecDepth 100000
set_option maxHeartbeats 4000000
/-! ### _law_caught(lambda: ..): a number of the error's class, and its attribute -/
namespace DY
open PySem L2 PySem.Spec PyProof.Rows LamX
/-! data that knows nothing of the error -/
section
variable {K : PySem.W.Frag} {A : CT} {G : Hp} {a : Addr} {l cs : List Nat}
end
variable [Tb]
section
variable {K : PySem.W.Frag} {A : CT} {G G' G1 G2 H H' H1 H2 : Hp} {σ : L2.St} {ρ ρ1 ρ2 ρ' : Env} {Q Q' : VK}
end
section
variable {P : Program} {w : World} {K : PySem.W.Frag} {mg : Str → Option Value} {base : Heap} {x qual e y : Str} {f : Addr} {fd : FuncData} {N : List Str} {k n : Nat} {A : CT} {mb : Nat → D → Sv} {l cs : List Nat}
end
section
variable {X : Cx} {A : CT}
end
/-! ### list.index of a truth -/
def indexT : D → D → R Rv
  | .lst ds, .bl b => do
    let bs ← boolsOf ds
    if b ∈ bs then .ok (.int (bs.idxOf b : Nat), false) else .no
  | _, _ => .no
theorem bools_D : ∀ {ds : List D} {bs : List Bool}, boolsOf ds = .ok bs → ds = bs.map D.bl
  | [], bs, h => by cases h; rfl
  | d :: ds, bs, h => by
    cases d with
    | bl b =>
      obtain ⟨bs', e1, e2⟩ := bind_ok h
      cases e2
      rw [List.map_cons, bools_D e1]
    | _ => cases h
theorem reps_bools {K : PySem.W.Frag} {A : CT} {G : Hp} : ∀ {bs : List Bool} {vs : List V}, Reps K A G vs (bs.map D.bl) → vs = bs.map V.bl
  | [], _, h => by cases h; rfl
  | b :: bs, _, h => by
    cases h with
    | cons r rs => cases r; rw [reps_bools rs]; rfl
section
variable {X : Cx} {A : CT} {o e : Expr} {mo me : Ev} {apos pos : Pos}
theorem pd_indexT (ho : PD A X o mo) (ha : PDA A X [e] [me]) (hx : ∀ {r : V → List V → Hp → VK → Prop}, MtR X "list.index" r → PE X (.Call (.Attribute o "index" apos) [e] [] pos) (tBM X.K "list" r (liftE X.K A mo) (liftA X.K A [me]))) :
    PD A X (.Call (.Attribute o "index" apos) [e] [] pos) (eBin indexT mo me) := PE.imp (hx mt_index) fun σ H Q h => by
  obtain ⟨G, ρ, r, ρ', s, e, k⟩ := h
  obtain ⟨⟨x, ρ1⟩, e1, e⟩ := bind_ok e
  obtain ⟨⟨y, ρ2⟩, e2, e⟩ := bind_ok e
  obtain ⟨r1, e3, e⟩ := bind_ok e
  obtain rfl : ρ2 = ρ' := by cases e; rfl
  obtain rfl : r1 = r := by cases e; rfl
  unfold indexT at e3
  split at e3
  · rename_i ds b _
    obtain ⟨bs, hb, e3⟩ := bind_ok e3
    split at e3
    · rename_i hm
      cases e3
      have := bools_D hb
      subst this
      refine use_val s e1 fun v G1 H1 n1 r1 => ?_
      cases r1 with
      | lst h rs =>
        have evv : evs [me] ρ1 = .ok ([.bl b], ρ2) := by show (do let (x, ρ1) ← val me ρ1; let (xs, ρ2) ← evs [] ρ1; pure (x :: xs, ρ2)) = _; rw [e2]; rfl
        refine ⟨(.inl ⟨rfl, _, .inl (.inl (n1.st.sub.lst h))⟩), G1, ρ1, _, _, n1.st, evv, fun vs G2 H2 n2 r2 => ?_⟩
        obtain ⟨v2, rfl, r3⟩ := r2.inv1
        cases r3
        have ev := reps_bools rs
        subst ev
        have hlt := List.idxOf_lt_length_of_mem hm
        have hz : (bs.map V.bl)[bs.idxOf b]? = some (.bl b) := by
          rw [List.getElem?_map, List.getElem?_eq_getElem hlt]
          simp
        refine ⟨_, _, _, bs.idxOf b, .bl b, rfl, rfl, .inl (.inl (n2.st.sub.lst (n2.gs _ _ h))), rfl, ?_, hz, by show (b == b) = true; exact beq_self_eq_true b, fun l z' hl hz' => ?_, k _ _ _ (n1.trans n2) (RepR.of (.int _))⟩
        · rw [List.all_map, List.all_eq_true]; intro _ _; rfl
        · rw [List.getElem?_map] at hz'
          obtain ⟨c, hc, rfl⟩ := Option.map_eq_some_iff.mp hz'
          show (c == b) = false
          refine beq_eq_false_iff_ne.mpr fun w => ?_
          subst w
          have hl' : l < bs.findIdx (· == c) := hl
          have := List.not_of_lt_findIdx hl'
          obtain ⟨h1, h2⟩ := List.getElem?_eq_some_iff.mp hc
          rw [h2] at this
          simp at this
    · cases e3
  · cases e3
end
end DY

set_option Elab.async false
set_option linter.all false
set_option maxRecDepth 100000
set_option maxHeartbeats 4000000
/-! ### errors out of a choice, a comparison, an attribute, a call of a method by name -/
namespace DY
open PySem L2 PySem.Spec PyProof.Rows
variable [Tb]
section
variable {X : Cx} {A : CT} {E : XK} {a b c e : Expr} {ma mb mc me : Ev} {ks : List Ev} {p pos : Pos} {n : Nat} {m : Str}
end
end DY

set_option Elab.async false
set_option linter.all false
/-! LP1: sums, determinants -/
namespace LP
def sm : Nat → (Nat → Int) → Int
  | 0, _ => 0
  | n + 1, g => sm n g + g n
/-! ### determinants -/
abbrev Vec := Nat → Int
def skip (i a : Nat) : Nat := if a < i then a else a + 1
def bnd (B : Nat) : Nat → Nat
  | 0 => 1
  | m + 1 => (m + 1) * (B * bnd B m)
end LP

set_option Elab.async false
set_option linter.all false
/-! LP2: tables, the exchange of a column with a row -/
namespace LP
structure Tab where
  cols : List Nat
  bas : List (Option Nat)
  rows : List (List Int)
  sc : Int
def Tab.R (t : Tab) (i j : Nat) : Int := (t.rows.getD i []).getD j 0
def clearedL (row own : List Int) (p : Nat) (sc : Int) : List Int :=
  ((List.range row.length).map fun k => ((if own.getD p 0 > 0 then 1 else -1) * (own.getD p 0 * row.getD k 0 - row.getD p 0 * own.getD k 0)).fdiv sc).set p ((if own.getD p 0 > 0 then 1 else -1) * row.getD p 0)
def turnedL (own : List Int) (p : Nat) (sc : Int) : List Int := (own.map fun x => -(if own.getD p 0 > 0 then 1 else -1) * x).set p ((if own.getD p 0 > 0 then 1 else -1) * sc)
def exchange (t : Tab) (i p : Nat) : Tab :=
  { cols := t.cols.set p ((t.bas.getD i none).getD 0), bas := t.bas.set i (some (t.cols.getD p 0)),
    rows := (t.rows.map fun row => clearedL row (t.rows.getD i []) p t.sc).set i (turnedL (t.rows.getD i []) p t.sc), sc := ((t.R i p).natAbs : Int) }
section
variable (f g : Nat → Vec) (e : Vec)
/-- what row i tells -/
def Fn (t : Tab) (i : Nat) : Vec := match t.bas.getD i none with
  | some b => f b
  | none => g i
end
section
variable {f g : Nat → Vec} {e : Vec} {n : Nat} {t : Tab}
/-- the product that is divided -/
def Wd (t : Tab) (i q p k : Nat) : Int := t.R q p * t.R i k - t.R i p * t.R q k
/-! the new rows -/
end
end LP

set_option Elab.async false
set_option linter.all false
/-! LP3: which column, which row; steps; no set of columns comes twice -/
namespace LP
/-! ### a step -/
section
variable {f g : Nat → Vec} {e : Vec} {n : Nat} {t t' : Tab} {p q b : Nat}
/-! where numbers stand -/
def ent (t : Tab) (p : Nat) : Nat := t.cols.getD p 0
/-! two tables of the same quantities -/
end
end LP

set_option Elab.async false
set_option linter.all false
/-! LP4: no set of columns comes twice; climbing ends -/
namespace LP
section
variable {f g : Nat → Vec} {e : Vec} {n : Nat} {sq : Nat → Tab} {ps qs bs : Nat → Nat} {K : Nat}
/-- the entering one -/
def eN (sq : Nat → Tab) (ps : Nat → Nat) (k : Nat) : Nat := ent (sq k) (ps k)
theorem most (u w : Nat → Nat) (i : Nat) : ∀ d, 0 < d → ∃ M, (∃ k, i ≤ k ∧ k < i + d ∧ (u k = M ∨ w k = M)) ∧ ∀ k, i ≤ k → k < i + d → u k ≤ M ∧ w k ≤ M
  | 0, h => by omega
  | 1, _ => by
    refine ⟨max (u i) (w i), ⟨i, by omega, by omega, ?_⟩, fun k h1 h2 => ?_⟩
    · rcases Nat.le_total (u i) (w i) with h | h
      · exact .inr (Nat.max_eq_right h).symm
      · exact .inl (Nat.max_eq_left h).symm
    · have : k = i := by omega
      subst this; exact ⟨Nat.le_max_left _ _, Nat.le_max_right _ _⟩
  | d + 2, _ => by
    obtain ⟨M, ⟨k, h1, h2, h3⟩, h4⟩ := most u w i (d + 1) (by omega)
    by_cases q : max (u (i + (d + 1))) (w (i + (d + 1))) ≤ M
    · refine ⟨M, ⟨k, h1, by omega, h3⟩, fun k' a b => ?_⟩
      by_cases z : k' = i + (d + 1)
      · subst z; exact ⟨Nat.le_trans (Nat.le_max_left _ _) q, Nat.le_trans (Nat.le_max_right _ _) q⟩
      · exact h4 k' a (by omega)
    · refine ⟨max (u (i + (d + 1))) (w (i + (d + 1))), ⟨i + (d + 1), by omega, by omega, ?_⟩, fun k' a b => ?_⟩
      · rcases Nat.le_total (u (i + (d + 1))) (w (i + (d + 1))) with h | h
        · exact .inr (Nat.max_eq_right h).symm
        · exact .inl (Nat.max_eq_left h).symm
      · by_cases z : k' = i + (d + 1)
        · subst z; exact ⟨Nat.le_max_left _ _, Nat.le_max_right _ _⟩
        · have := h4 k' a (by omega); omega
end
/-! ### few sets -/
/-! ### climbing -/
section
variable {f g : Nat → Vec} {e : Vec} {n N : Nat}
end
end LP

set_option Elab.async false
set_option linter.all false
/-! LP5: conditions decided -/
namespace LP
/-! ### a table as it is written -/
def gT (t : Tab) : Nat → Vec := fun i c => t.R i c
def unit (n : Nat) : Vec := fun c => if c = n then 1 else 0
section
variable {n : Nat} {t : Tab}
end
/-! ### amounts -/
section
variable {f g : Nat → Vec} {e : Vec} {n : Nat} {t : Tab}
end
/-! ### the conditions' table -/
abbrev Cond := List Int × Bool
section
variable {w : Nat} {cs : List Cond}
section
variable {t : Tab} (hl : ∀ c ∈ cs, c.1.length = w + 1)
include hl
def cf (w : Nat) (cs : List Cond) (v k : Nat) : Int := if v < w then (if v = k then 1 else 0) else (cs.getD (v - w) ([], false)).1.getD k 0
end
end
end LP

set_option Elab.async false
set_option linter.all false
set_option maxRecDepth 100000
set_option maxHeartbeats 4000000
/-! ### tables of the solver: an object that alone holds two of its lists -/
namespace DY
open PySem L2 PySem.Spec PyProof.Rows
variable [Tb]
section
variable {K : PySem.W.Frag} {A : CT} {G G' G1 H H' H1 H2 : Hp} {σ : L2.St} {ρ ρ' : Env} {O : Addr → Prop} {p a b : Addr} {t : LP.Tab} {S : Addr → Prop}
/-! what is known of rows -/
/-! a state of which all is shown -/
end
section
variable {K : PySem.W.Frag} {A : CT} {G G' G1 H H' H1 H2 : Hp} {σ : L2.St} {ρ ρ' : Env}
end
/-! ### exchange -/
section
variable {K : PySem.W.Frag} {A : CT} {H : Hp}
end
end DY

set_option Elab.async false
set_option linter.all false
set_option maxRecDepth 100000
set_option maxHeartbeats 4000000
/-! ### climbing -/
namespace DY
open PySem L2 PySem.Spec PyProof.Rows
variable [Tb]
section
variable {K : PySem.W.Frag} {A : CT} {H : Hp}
end
end DY

set_option Elab.async false
set_option linter.all false
set_option maxRecDepth 100000
set_option maxHeartbeats 4000000
/-! ### a table made and climbed -/
namespace DY
open PySem L2 PySem.Spec PyProof.Rows
variable [Tb]
section
variable {X : Cx} {A : CT} {j : Option Nat}
end
end DY

set_option Elab.async false
set_option linter.all false
/-! LP6: how large the numbers get -/
namespace LP
end LP

set_option Elab.async false
set_option linter.all false
/-! LP7: a point that keeps the conditions makes the goal positive -/
namespace LP
end LP

set_option Elab.async false
set_option linter.all false
/-! LP8: a table without a column that is 0, without its first row -/
namespace LP
/-- without the first row -/
def tl (t : Tab) : Tab := { t with rows := t.rows.drop 1, bas := t.bas.drop 1 }
section
variable {f g : Nat → Vec} {e : Vec} {n : Nat} {t : Tab}
end
end LP

set_option Elab.async false
set_option linter.all false
set_option maxRecDepth 100000
set_option maxHeartbeats 4000000
/-! ### a table climbed twice, a quantity taken out between -/
namespace DY
open PySem L2 PySem.Spec PyProof.Rows
variable [Tb]
section
variable {K : PySem.W.Frag} {A : CT} {G G3 G' G1 H H3 H4 H6 H' H1 H2 : Hp} {σ : L2.St} {ρ ρ' ρ3 : Env} {O : Addr → Prop} {p a b a6 b6 : Addr} {t t' : LP.Tab} {S : Addr → Prop}
end
/-! ### fixed -/
/-! ### climbed, fixed, climbed again -/
section
variable {X : Cx} {A : CT} {j : Option Nat}
end
end DY

set_option Elab.async false
set_option linter.all false
set_option maxRecDepth 100000
set_option maxHeartbeats 4000000
/-! DYtr: a try whose body does not raise -/
namespace DY
open PySem L2 PySem.Spec PyProof.Rows SL
variable [Tb]
/-! repr of a truth -/
end DY

set_option Elab.async false
set_option linter.all false
set_option maxRecDepth 100000
set_option maxHeartbeats 4000000
/-! ### s[::-1] of a text, tuple(text), text.upper(), repr of small data -/
namespace DY
open PySem L2 PySem.Spec PyProof.Rows
variable [Tb]
def revTD : D → R Rv
  | .str xs => if xs.length ≤ 1000 then .ok (.str ((Builtin.Str.strSliceIndices none none (-1) xs.length).filterMap (xs[·]?)), false) else .no
  | _ => .no
section
variable {X : Cx} {A : CT} {σ : L2.St} {H : Hp} {Q : VK}
/-! ### tuple(text) -/
def tupleSD : List D → R Rv
  | [.str xs] => if xs.length ≤ 1000 then .ok (.tup (xs.map fun c => .str [c]), false) else .no
  | ds => tupleD ds
/-! ### text.upper() -/
/-! ### repr of small data -/
def reprXD : List D → R Rv
  | [.non] => .ok (.str [78, 111, 110, 101], false)
  | [.bl b] => .ok (.str (if b then [84, 114, 117, 101] else [70, 97, 108, 115, 101]), false)
  | [.int i] => if i.natAbs.log2 < 1920 then .ok (.str (Str.ofString (toString i)).cps.toList, false) else .no
  | [.str xs] => if (reprText (S xs)).length ≤ 100000 then .ok (.str (reprText (S xs)).cps.toList, false) else .no
  | _ => .no
theorem o_reprX : CallR X (.builtin "repr") (rDn X.K A reprXD) := by
  intro pins s σ H xs us Q I r h
  obtain ⟨G, ds, r0, sb, rs, e, k⟩ := h
  have I' : Inv X pins σ H { s with toks := s.toks + 1 } := I.kept (t' := s.toks + 1) fun b o e => e
  unfold reprXD at e
  split at e
  · cases e
    obtain ⟨v1, rfl, r1⟩ := rs.inv1
    obtain ⟨u, rfl, ru⟩ := vals1 r
    cases r1
    obtain rfl : u = Value.none := ru
    exact P.repr_of_none ⟨.str "None", H, I', ⟨s.toks, rfl⟩, same_end (K := X.K) sb (Rep.str (K := X.K) (A := A) [78, 111, 110, 101]) k⟩
  · rename_i b
    cases e
    obtain ⟨v1, rfl, r1⟩ := rs.inv1
    obtain ⟨u, rfl, ru⟩ := vals1 r
    cases r1
    obtain rfl : u = Value.bool b := ru
    refine P.repr_of_bool ⟨.str (if b then "True" else "False"), H, I', ⟨s.toks, rfl⟩, ?_⟩
    have := same_end (K := X.K) sb (Rep.str (K := X.K) (A := A) (if b then [84, 114, 117, 101] else [70, 97, 108, 115, 101])) k
    cases b <;> exact this
  · rename_i i
    split at e
    · rename_i hl
      cases e
      obtain ⟨v1, rfl, r1⟩ := rs.inv1
      obtain ⟨u, rfl, ru⟩ := vals1 r
      cases r1
      obtain ⟨t, rfl⟩ : ∃ t, u = Value.int i t := ru
      refine P.repr_of_int hl ⟨.str (toString i), H, I', ⟨s.toks, rfl⟩, ?_⟩
      have := same_end (K := X.K) sb (Rep.str (K := X.K) (A := A) (Str.ofString (toString i)).cps.toList) k
      rw [S_cps] at this
      exact this
    · cases e
  · rename_i xs
    split at e
    · rename_i hl
      cases e
      obtain ⟨v1, rfl, r1⟩ := rs.inv1
      obtain ⟨u, rfl, ru⟩ := vals1 r
      cases r1
      obtain ⟨t, rfl⟩ : ∃ t, u = Value.str (S xs) t := ru
      refine P.repr_of_str ⟨.str (reprText (S xs)), H, I', ⟨s.toks, rfl⟩, ?_⟩ (by rw [sizeLine_eq]; omega)
      have := same_end (K := X.K) sb (Rep.str (K := X.K) (A := A) (reprText (S xs)).cps.toList) k
      rw [S_cps] at this
      exact this
    · cases e
  · cases e
end
end DY

set_option Elab.async false
set_option linter.all false
set_option maxRecDepth 100000
set_option maxHeartbeats 4000000
namespace DY
open PySem L2 PySem.Spec PyProof.Rows
variable [Tb]
/-! ### xs != [] of an own list, whatever it holds -/
def neE : D → D → R Rv
  | .lst xs, .lst [] => bl_ (!xs.isEmpty)
  | _, _ => .no
section
variable {X : Cx} {A : CT}
variable {a b : Expr} {ma mb : Ev} {pos pos' p apos : Pos} {x : Str} {i : Nat}
/-! ### xs.pop(), xs.extend(ys) -/
def extendM : D → List D → R (D × D)
  | .lst xs, [.lst ys] => if xs.length + ys.length ≤ 100000 then .ok (.non, .lst (xs ++ ys)) else .no
  | _, _ => .no
/-! ### tuple * int -/
def mulT : D → D → R Rv
  | .tup a, .int k => if a ≠ [] ∧ 2 ≤ k ∧ k ≤ 1000 ∧ a.length * k.toNat ≤ 1000 then .ok (.tup (List.replicate k.toNat a).flatten, false) else .no
  | _, _ => .no
theorem n2_mulT : N2 mulT := fun x y d z => by
  unfold mulT at z
  split at z
  · split at z <;> cases z
  · cases z
/-! ### repr of plain data, of {} -/
noncomputable def reprA : List D → R Rv
  | [.dic []] => .ok (.str [123, 125], false)
  | [x] => if seqD x = true then reprD [x] else reprXD [x]
  | _ => .no
theorem o_reprA (hg : X.A.guards = some []) (hu : X.A.units + 65 < cLine) : CallR X (.builtin "repr") (rDn X.K A reprA) := by
  intro pins s σ H xs us Q I r h
  obtain ⟨G, ds, r0, sb, rs, e, k⟩ := h
  unfold reprA at e
  split at e
  · cases e
    obtain ⟨v1, rfl, r1⟩ := rs.inv1
    obtain ⟨u, rfl, ru⟩ := vals1 r
    cases r1 with
    | @dic p kvs ds hp rk =>
      cases rk
      obtain rfl : u = Value.ref p := ru
      obtain ⟨_, hS, vs, rv, o, es, ep, e1, ex, e2, ks, e3⟩ := dk_rd I.hok (sb.dK hp)
      have h0 : es.toList = [] := by
        cases rv
        generalize es.toList = l at e3
        obtain ⟨e3, _⟩ := e3
        cases e3
        rfl
      have rd : Reads s.heap (.ref p) (.dict []) (p :: [] ++ []) := .dict e1 ex.1 e2 (by rw [h0]; exact .nil) (by rw [h0]; exact .nil)
      refine repr_of_reads' rd (by decide) (fun _ z => ?_) hg (by show X.A.units + (_ + 1) < cLine; have : (PyData.dict []).depth ≤ 60 := by decide
                                                                  omega) (fun b o e => e) (fun h' t tk hk => ?_) (by decide +kernel)
      · simp at z
        rw [z] at hS
        simp at hS
      · have I' : Inv X pins σ H { s with heap := h', toks := tk } := I.kept (t' := tk) hk
        exact ⟨.str (PyData.dict []).shown, H, I', ⟨t, rfl⟩, same_end (K := X.K) sb (Rep.str (K := X.K) (A := A) [123, 125]) k⟩
  · split at e
    · exact o_repr hg hu pins s σ H xs us Q I r ⟨G, _, r0, sb, rs, e, k⟩
    · exact o_reprX pins s σ H xs us Q I r ⟨G, _, r0, sb, rs, e, k⟩
  · cases e
/-! ### t[:0:-1] -/
section
variable {prog : Program} {w : World} {A : Around} {E : Value → Shared → Prop} {s : Shared}
end
/-! ### list.index of a text -/
end
/-! ### the def that tells an error: an old list, too -/
section
variable {P : Program} {w : World} {K : PySem.W.Frag} {mg : Str → Option Value} {base : Heap} {x qual e : Str} {f : Addr} {fd : FuncData} {N : List Str} {k n : Nat} {A : CT} {mb : Nat → D → Sv} {l : List Nat}
end
end DY
/-! ### str of an own object: only where its own answer is a text -/
namespace DY
open PySem L2 PySem.Spec PyProof.Rows
section
variable [Tb] {X : Cx} {A : CT} {CX : CXT} {k : Nat} {f : Addr} {fd : FuncData} {ps : List Str} {E : XK}
end
end DY

set_option Elab.async false
set_option linter.all false
set_option maxRecDepth 100000
set_option maxHeartbeats 4000000
/-! ### errors as values -/
namespace DY
open PySem L2 PySem.Spec PyProof.Rows
variable [Tb]
/-- C(..) of a class of errors -/
def mkErr (c n : Nat) (ds : List D) : R Rv := if ds.length = n then .ok (.err c ds, false) else .no
/-- isinstance(e, C), by a table -/
def isErr (t : Nat → Option Bool) : D → R Rv
  | .err c _ => match t c with
    | some b => .ok (.bl b, false)
    | none => .no
  | _ => .no
/-- e.n, by the attribute's place -/
def atErr (g : Nat → Option Nat) : D → R Rv
  | .err c ds => match g c with
    | some i => match ds[i]? with
      | some d => .ok (d, false)
      | none => .no
    | none => .no
  | _ => .no
theorem eh_sub {G H : Hp} {C a : Addr} {fs : List (Str × V)} (s : Sub G H) (h : SL.EH C fs G a) : SL.EH C fs H a := by
  obtain ⟨oe, dd, h1, h2, h3, h4⟩ := h
  have go : ∀ p o, ¬ isD o → G p = some o → H p = some o := fun p o n z => (s p o z).elim id fun q => absurd q.1 n
  have e1 := go _ _ id h1
  refine ⟨oe, dd, e1, h2, h3, ?_⟩
  rcases h4 with h4 | ⟨d, h5, h6⟩
  · exact .inl h4
  · exact .inr ⟨d, h5, go _ _ id h6⟩
section
variable {K : PySem.W.Frag} {A : CT} {G H : Hp} {vs : List V} {ds : List D} {c n : Nat} {Q : VK}
theorem new_err {a d : Addr} {oe : Obj} (s : Sub G H) (na : H a = none) (nd : H d = none) (ne : d ≠ a) (hz : Zc (.ref (A.ad c)) (some d) oe) (hf : ∃ us, oe.data = .fields us) (l : vs.length = (A.nms c).length) (hc : c ∈ A.xs) (r : Reps K A G vs ds) :
    ∃ G', Nx0 G H G' (upd (upd H d (.xd ((A.nms c).zip vs))) a (.frz oe (.own a))) ∧ Rep K A G' (.ref a) (.err c ds) := by
  have n1 := nx0_new (o := .xd ((A.nms c).zip vs)) s nd
  have na' : upd H d (.xd ((A.nms c).zip vs)) a = none := by rw [upd_ne (Ne.symm ne)]; exact na
  have n2 := nx0_new (o := .frz oe (.own a)) n1.sub na'
  have e : upd (upd G d (.xd ((A.nms c).zip vs))) a (.frz oe (.own a)) d = some (.xd ((A.nms c).zip vs)) := by rw [upd_ne ne]; exact upd_same
  exact ⟨_, n1.trans n2, .err ⟨oe, some d, upd_same, hz, hf, .inr ⟨d, rfl, e⟩⟩ l hc (r.mono (n1.trans n2).ext.gs)⟩
theorem err_use (hc : c ∈ A.xs) (hn : (A.nms c).length = n) (h : rDn K A (mkErr c n) vs H Q) : vs.length = (A.nms c).length ∧ SL.tErr (A.ad c) (A.nms c) H vs Q := by
  obtain ⟨G, ds, r, s, rs, e, k⟩ := h
  unfold mkErr at e
  split at e
  · rename_i l
    cases e
    have lv : vs.length = (A.nms c).length := by rw [rs.len, l, hn]
    refine ⟨lv, fun z a oe na hz hf => ?_, fun a d oe na nd ne hz hf => ?_⟩
    · have n1 := nx0_new (o := .frz oe (.own a)) s na
      exact k _ _ _ n1 (RepR.of (.err ⟨oe, none, upd_same, hz, hf, .inl ⟨rfl, by rw [z]; rfl⟩⟩ lv hc (rs.mono n1.ext.gs)))
    · obtain ⟨G', n, r⟩ := new_err s na nd ne hz hf lv hc rs
      exact k _ _ _ n (RepR.of r)
  · cases e
end
section
variable {X : Cx} {A : CT} {c n : Nat} {x : Str} {e a : Expr} {es : List Expr} {ms : List Ev} {ma : Ev} {kws : List Keyword} {ks : List Str} {p pos : Pos} {is : List Nat}
theorem pd_err (hm : ∀ us : List Value, us.length = (A.nms c).length → SL.XMk X.K (A.ad c) (A.nms c) us [] us) (kp : PySem.W.keepIn X.K (.ref (A.ad c)) = true) (hr : SL.Room 1 X.A) (hg : Gl X x) (hx : X.mg x = some (.ref (A.ad c))) (hc : c ∈ A.xs) (hn : (A.nms c).length = n) (ha : PDA A X (e :: es) ms)
    (hdb : (x == ("__debug__" : Str)) = false := by decide) (he : starEach (e :: es) X.env = (false, eval e X.env) :: starEach es X.env := by rfl) (hpl : (backTo pos (starEach es X.env)).any (·.1) = false := by rfl) :
    PD A X (.Call (.Name x p) (e :: es) [] pos) (eN (mkErr c n) ms) := PE.imp (SL.pe_err hm kp hr.toRoom hg hx ha hdb he hpl) fun _ _ _ q => TA_mono (n_use q) fun _ _ => err_use hc hn
theorem pd_err0 (hm : SL.XMk X.K (A.ad c) (A.nms c) [] [] []) (kp : PySem.W.keepIn X.K (.ref (A.ad c)) = true) (hr : SL.Room 1 X.A) (hg : Gl X x) (hx : X.mg x = some (.ref (A.ad c))) (hc : c ∈ A.xs) (hn : A.nms c = [])
    (hdb : (x == ("__debug__" : Str)) = false := by decide) : PD A X (.Call (.Name x p) [] [] pos) (eN (mkErr c 0) []) := PE.imp (SL.pe_err0 hm kp hr.toRoom hg hx hdb) fun σ H Q q => by
  obtain ⟨G, ρ, ds, ρ', s, e, z⟩ := n_use q
  cases e
  exact (err_use hc (by rw [hn]; rfl) (z [] G H (Nx.refl s) .nil)).2
theorem pd_errK (hm : ∀ ws : List Value, ws.length = (A.nms c).length → SL.XMk X.K (A.ad c) (A.nms c) [] (ks.zip ws) (prm is [] ws)) (kp : PySem.W.keepIn X.K (.ref (A.ad c)) = true) (hr : SL.Room 1 X.A) (hg : Gl X x) (hx : X.mg x = some (.ref (A.ad c))) (hc : c ∈ A.xs) (hn : (A.nms c).length = n)
    (hi : ms.length = n) (hkw : PDK A X kws ms)
    (hall : (backToKw pos (keywordEach kws X.env)).all (·.1.isSome) = true := by rfl) (hks : (backToKw pos (keywordEach kws X.env)).filterMap (·.1) = ks := by rfl) (hdb : (x == ("__debug__" : Str)) = false := by decide)
    (hpl : ((backTo pos (starEach [] X.env)).any (·.1) || (backToKw pos (keywordEach kws X.env)).any (·.1.isNone)) = false := by rfl) :
    PD A X (.Call (.Name x p) [] kws pos) (eNK (mkErr c n) (prm is) [] ms) := PE.imp (SL.pe_errK (gU := prm is []) (gV := prm is []) hm (fun r => vals_prm is .nil r) kp hr.toRoom hg hx hkw hall hks hdb hpl) fun σ H Q q => by
  obtain ⟨G, ρ, r, ρ', s, e, k⟩ := q
  obtain ⟨⟨ds, ρ1⟩, e1, e⟩ := bind_ok e
  cases e1
  obtain ⟨⟨zs, ρ2⟩, e2, e⟩ := bind_ok e
  obtain ⟨r', e3, e⟩ := bind_ok e
  cases e
  refine ⟨G, ρ, zs, _, s, e2, fun vs G1 H1 n1 r1 => ?_⟩
  have u := err_use hc hn ⟨G1, prm is [] zs, r, n1.st.sub, (prm_gv is).rel .nil r1, e3, end_of n1 k⟩
  exact ⟨by rw [r1.len, evs_len e2, hi, hn], u.2⟩
/-- isinstance(e, C) -/
theorem pd_isE {t : Nat → Option Bool} {cv : Value} {v : V} {ec : Expr} {q : Pos} (xa : ∀ c ∈ A.xs, SL.XA X.K (A.ad c)) (hk : ∀ c ∈ A.xs, ∀ b, t c = some b → PySem.W.kitOne X.K (.ref (A.ad c)) cv = some b) (hv : ∀ u, RelV v u → u = cv) (hg : Gl X "isinstance") (hm : X.mg "isinstance" = none)
    (ha : PD A X a ma) (hc : PE X ec (tC v))
    (he : starEach [a, ec] X.env = (false, eval a X.env) :: starEach [ec] X.env := by rfl) (hpl : (backTo pos (starEach [ec] X.env)).any (·.1) = false := by rfl) (hs : starEach [ec] X.env = (false, eval ec X.env) :: starEach [] X.env := by rfl) :
    PD A X (.Call (.Name "isinstance" q) [a, ec] [] pos) (eUn (isErr t) ma) := PE.imp (pe_callB SL.call_isE hg hm (by rfl) (pa_cons ha (pa_cons hc pa_nil hs) he) (by decide) (by decide) he hpl) fun σ H Q q => by
  obtain ⟨G, ρ, r, ρ', s, e, k⟩ := q
  obtain ⟨⟨d, ρ1⟩, e1, e⟩ := bind_ok e
  obtain ⟨r1, e2, e⟩ := bind_ok e
  cases e
  refine use_val s e1 fun w G1 H1 n1 r1 => ?_
  unfold isErr at e2
  split at e2
  · split at e2
    · rename_i c' ds' b hb
      cases e2
      cases r1 with
      | err h l hc' rs => exact ⟨_, _, _, _, _, b, rfl, xa _ hc', eh_sub n1.st.sub h, hv, hk _ hc' _ hb, k _ _ _ n1 (RepR.of (.bl _))⟩
    · cases e2
  · cases e2
/-- e.n -/
theorem pd_attrE {g : Nat → Option Nat} {nm : Str} (xa : ∀ c ∈ A.xs, SL.XA X.K (A.ad c)) (hg : ∀ c ∈ A.xs, ∀ i, g c = some i → (A.nms c)[i]? = some nm ∧ (A.nms c).Nodup ∧ PySem.W.findIn X.K (.ref (A.ad c)) nm = some none) (ha : PD A X a ma) (hb : attributeBase a nm X.env (eval a X.env) = eval a X.env := by rfl) :
    PD A X (.Attribute a nm pos) (eUn (atErr g) ma) := PE.imp (SL.pe_attrE ha hb) fun σ H Q q => by
  obtain ⟨G, ρ, r, ρ', s, e, k⟩ := q
  obtain ⟨⟨d, ρ1⟩, e1, e⟩ := bind_ok e
  obtain ⟨r1, e2, e⟩ := bind_ok e
  cases e
  refine use_val s e1 fun w G1 H1 n1 r1 => ?_
  unfold atErr at e2
  split at e2
  · split at e2
    · rename_i c' ds' i hi
      split at e2
      · rename_i d' hd
        cases e2
        cases r1 with
        | err h l hc' rs =>
          obtain ⟨h1, h2, h3⟩ := hg _ hc' _ hi
          obtain ⟨v, hv, rv⟩ := rs.get' hd
          exact ⟨_, _, _, v, rfl, xa _ hc', h3, eh_sub n1.st.sub h, lookup_zip h2 h1 hv, k _ _ _ n1 (RepR.of rv)⟩
      · cases e2
    · cases e2
  · cases e2
end
/-! ### tables -/
/-- of which classes an error is -/
def isTb (xs ss : List Nat) (c : Nat) : Option Bool := if c ∈ xs then some (ss.contains c) else none
def atTb (l : List (Nat × Nat)) (c : Nat) : Option Nat := l.lookup c
theorem atTb_mem {c i : Nat} : ∀ {l : List (Nat × Nat)}, atTb l c = some i → (c, i) ∈ l
  | [], e => by cases e
  | (a, b) :: l, e => by
    have e' : (match c == a with | true => some b | false => List.lookup c l) = some i := e
    cases h : c == a with
    | true =>
      rw [h] at e'
      cases e'
      rw [beq_iff_eq.mp h]
      exact List.mem_cons_self
    | false =>
      rw [h] at e'
      exact List.mem_cons_of_mem _ (atTb_mem e')
theorem isx_use {K : PySem.W.Frag} {A : CT} {ys : List (Value × List Nat)} (h : ∀ c ∈ A.xs, ∀ y ∈ ys, PySem.W.kitOne K (.ref (A.ad c)) y.1 = some (y.2.contains c)) {xs : List Nat} {cv : Value} {ss : List Nat} (i : Nat) (e : ys[i]? = some (cv, ss)) :
    ∀ c ∈ A.xs, ∀ b, isTb xs ss c = some b → PySem.W.kitOne K (.ref (A.ad c)) cv = some b := fun c hc b hb => by
  unfold isTb at hb
  split at hb
  · cases hb
    exact h c hc _ (List.mem_of_getElem? e)
  · cases hb
theorem gx_use {K : PySem.W.Frag} {ad : Nat → Addr} {nms : Nat → List Str} {l : List (Nat × Nat)} {n : Str} (hn : ∀ c, (nms c).Nodup) (h1 : (l.all fun p => (nms p.1)[p.2]? == some n) = true) (h2 : (l.all fun p => PySem.W.findIn K (.ref (ad p.1)) n == some none) = true) (c i : Nat) (e : atTb l c = some i) :
    (nms c)[i]? = some n ∧ (nms c).Nodup ∧ PySem.W.findIn K (.ref (ad c)) n = some none := by
  have m : (c, i) ∈ l := atTb_mem e
  exact ⟨beq_iff_eq.mp (List.all_eq_true.mp h1 _ m), hn c, beq_iff_eq.mp (List.all_eq_true.mp h2 _ m)⟩
/-- a class of errors, called by place and by name -/
structure XVl (K : PySem.W.Frag) (C : Addr) (ns ks : List Str) (is : List Nat) : Prop where
  pos : ∀ us : List Value, us.length = ns.length → SL.XMk K C ns us [] us
  kw : ∀ ws : List Value, ws.length = ns.length → SL.XMk K C ns [] (ks.zip ws) (prm is [] ws)
theorem xvl1 {K : PySem.W.Frag} {C fI : Addr} {n : Str} (T : SL.XC K C fI n) (N : SL.XN n)
    (hb : ∀ (x v : Value) (qual : Str) (p1 p2 : Pos) (body : List Stmt) (doc pm : Value) (an : Option Addr) (cdv ct : Value), bindArgs (PySem.W.fnOf "__init__" qual (SL.xA n p1 p2) body (SL.xS n) .none .none doc pm an cdv ct) ⟨[x], [(n, v)]⟩ = pure [(("self" : Str), x), (n, v)]) : XVl K C [n] [n] [0] where
  pos := fun us l => match us, l with
    | [v], _ => SL.xv_made T N (by simp) fun x qual p1 p2 body doc pm an cdv ct => N.bd ..
  kw := fun ws l => match ws, l with
    | [v], _ => SL.xv_made T N (by simp) fun x qual p1 p2 body doc pm an cdv ct => hb ..
theorem xvl_value {K : PySem.W.Frag} {C fI : Addr} (T : SL.XC K C fI "value") : XVl K C ["value"] ["value"] [0] := xvl1 T SL.xn_value fun _ _ _ _ _ _ _ _ _ _ _ => rfl
theorem xvl_index {K : PySem.W.Frag} {C fI : Addr} (T : SL.XC K C fI "index") : XVl K C ["index"] ["index"] [0] := xvl1 T SL.xn_index fun _ _ _ _ _ _ _ _ _ _ _ => rfl
theorem xvl_given {K : PySem.W.Frag} {C fI : Addr} (T : SL.XC K C fI "given") : XVl K C ["given"] ["given"] [0] := xvl1 T SL.xn_given fun _ _ _ _ _ _ _ _ _ _ _ => rfl
theorem xvl_weights {K : PySem.W.Frag} {C fI : Addr} (T : SL.XC K C fI "weights") : XVl K C ["weights"] ["weights"] [0] := xvl1 T SL.xn_weights fun _ _ _ _ _ _ _ _ _ _ _ => rfl
theorem xvl_limit {K : PySem.W.Frag} {C fI : Addr} (T : SL.XC K C fI "limit") : XVl K C ["limit"] ["limit"] [0] := xvl1 T SL.xn_limit fun _ _ _ _ _ _ _ _ _ _ _ => rfl
theorem xvl2 {K : PySem.W.Frag} {C fI : Addr} (T : SL.XCb K C fI) : XVl K C ["move", "shown"] ["shown", "move"] [1, 0] where
  pos := fun us l => match us, l with
    | [v, v2], _ => SL.y_made T (by simp) fun _ _ _ _ _ _ _ _ _ _ _ => rfl
  kw := fun ws l => match ws, l with
    | [v2, v], _ => SL.y_made T (by simp) fun _ _ _ _ _ _ _ _ _ _ _ => rfl
end DY

set_option Elab.async false
set_option linter.all false
set_option maxRecDepth 100000
set_option maxHeartbeats 4000000
namespace DY
local instance : Tb := { T := [] }
def xsL : List Nat := [21, 22, 23, 24, 25, 26, 27, 28, 29, 30, 31, 32, 33, 34, 35, 36, 37, 38, 39, 40, 41, 42, 43, 45, 46, 47, 48, 49, 50, 51, 52, 53, 54, 55, 57]
def xt_given : List (Nat × Nat) := [(49, 0), (50, 0)]
def xt_index : List (Nat × Nat) := [(25, 0), (26, 0), (27, 0), (29, 0), (32, 0), (36, 0), (37, 0), (48, 0)]
def xt_limit : List (Nat × Nat) := [(57, 0)]
def xt_move : List (Nat × Nat) := [(55, 0)]
def xt_shown : List (Nat × Nat) := [(55, 1)]
def xt_value : List (Nat × Nat) := [(21, 0), (22, 0), (23, 0), (24, 0), (28, 0), (30, 0), (31, 0), (33, 0), (34, 0), (35, 0), (38, 0), (39, 0), (40, 0), (41, 0), (42, 0), (43, 0), (45, 0), (46, 0), (47, 0)]
def xt_weights : List (Nat × Nat) := [(51, 0)]
def ysL (ad : Nat → PySem.Addr) : List (PySem.Value × List Nat) := [(PySem.Value.ref (ad 20), [20, 21, 22, 23, 24, 25, 26, 27, 28, 29, 30, 31, 32, 33, 34, 35, 36, 37, 38, 39, 40, 41, 42, 43]), (PySem.Value.ref (ad 21), [21]), (PySem.Value.ref (ad 22), [22]), (PySem.Value.ref (ad 23), [23]), (PySem.Value.ref (ad 24), [24]), (PySem.Value.ref (ad 25), [25]), (PySem.Value.ref (ad 26), [26]), (PySem.Value.ref (ad 27), [27]), (PySem.Value.ref (ad 28), [28]), (PySem.Value.ref (ad 29), [29]), (PySem.Value.ref (ad 30), [30]), (PySem.Value.ref (ad 31), [31]), (PySem.Value.ref (ad 32), [32]), (PySem.Value.ref (ad 33), [33]), (PySem.Value.ref (ad 34), [34]), (PySem.Value.ref (ad 35), [35]), (PySem.Value.ref (ad 36), [36]), (PySem.Value.ref (ad 37), [37]), (PySem.Value.ref (ad 38), [38]), (PySem.Value.ref (ad 39), [39]), (PySem.Value.ref (ad 40), [40]), (PySem.Value.ref (ad 41), [41]), (PySem.Value.ref (ad 42), [42]), (PySem.Value.ref (ad 43), [43]), (PySem.Value.ref (ad 44), [44, 45, 46, 47, 48, 49, 50, 51, 52, 53, 54, 55]), (PySem.Value.ref (ad 45), [45]), (PySem.Value.ref (ad 46), [46]), (PySem.Value.ref (ad 47), [47]), (PySem.Value.ref (ad 48), [48]), (PySem.Value.ref (ad 49), [49]), (PySem.Value.ref (ad 50), [50]), (PySem.Value.ref (ad 51), [51]), (PySem.Value.ref (ad 52), [52]), (PySem.Value.ref (ad 53), [53]), (PySem.Value.ref (ad 54), [54]), (PySem.Value.ref (ad 55), [55]), (PySem.Value.ref (ad 56), [56, 57]), (PySem.Value.ref (ad 57), [57]), (PySem.Value.type "ValueError", [20, 21, 22, 23, 24, 25, 26, 27, 28, 29, 30, 31, 32, 33, 34, 35, 36, 37, 38, 39, 40, 41, 42, 43]), (PySem.Value.type "LookupError", [44, 45, 46, 47, 48, 49, 50, 51, 52, 53, 54, 55]), (PySem.Value.type "ArithmeticError", [56, 57])]
end DY

set_option Elab.async false
set_option linter.all false
set_option maxRecDepth 100000
set_option maxHeartbeats 4000000
/-! SLE: the law's end, from a contract of SLG. -/
namespace SL
open PySem L2 PySem.Spec PyProof.Rows
section
variable {P : Program} {w : World} {K : PySem.W.Frag} {mg mb : Str → Option Value} {CX : CXT} {k : Nat} {fa a : Addr} {fd : FuncData} {x : Str} {sp : Sp} {s₁ : Shared} {vs : List Value} {ns : List Int}
end
end SL

set_option Elab.async false
set_option linter.all false
set_option maxRecDepth 100000
set_option maxHeartbeats 4000000
/-! SLE2: the law's end with tables of code objects; a def whose code object is known. -/
namespace SL
open PySem L2 PySem.Spec PyProof.Rows LamX
section
variable {P : Program} {w : World} {K : PySem.W.Frag} {mg : Str → Option Value} {base : Heap} {x qual : Str} {f : Addr} {fd : FuncData} {N ps : List Str} {k : Nat} {sp : Sp}
end
section
variable {P : Program} {w : World} {K : PySem.W.Frag} {mg mb : Str → Option Value} {CX : CXT} {k : Nat} {fa a : Addr} {cs : List (Addr × Addr)} {fd : FuncData} {x : Str} {sp : Sp} {s₁ : Shared} {vs : List Value} {ns : List Int}
/-- the object at b is none of those that are tracked -/
theorem not_tracked {H : Hp} {b : Addr} {o : Obj} (ha : s₁.heap.get? a = some { cls := .type "list", data := .seq vs.toArray }) (hT : ∀ p ∈ cs, s₁.heap.get? p.2 = some { cls := .none, data := .fields #[] })
    (hA : ∀ b, H b ≠ none → b = a ∨ ∃ p ∈ cs, p.2 = b) (e : s₁.heap.get? b = some o) (h1 : ∀ us n, o.data ≠ .seq us n) (h2 : o.data ≠ .fields #[]) : H b = none :=
  Classical.byContradiction fun z => by
    rcases hA b z with rfl | ⟨p, hp, rfl⟩
    · rw [ha] at e; cases e; exact h1 _ _ rfl
    · rw [hT p hp] at e; cases e; exact h2 rfl
theorem env_topT {H : Hp} (KX : K.In s₁.heap) (hns : s₁.heap.Ns mainGlobals mg) (hb : s₁.heap.Ns builtinsNs mb) (hbb : ∀ x : Str, x ≠ "__name__" → mb x = bootBuiltins x) (hlim : s₁.heap.NoLimit) (hg : s₁.gens = #[])
    (hT : ∀ p ∈ cs, s₁.heap.get? p.2 = some { cls := .none, data := .fields #[] }) (nT : ∀ p ∈ cs, K.lookup p.2 = none) (C : ∀ p ∈ cs, PySem.W.CodeHd s₁.heap p.1 p.2)
    (hbm : ∃ (bm : Addr) (ob : Obj), mg "__builtins__" = some (.ref bm) ∧ bm ≠ builtinsNs ∧ s₁.heap.get? bm = some ob ∧ ob.cls = .type "module" ∧ ob.dict = some builtinsNs ∧ ob.data = .plain)
    (ha : s₁.heap.get? a = some { cls := .type "list", data := .seq vs.toArray }) (hok : HOk P w H s₁.heap) (hA : ∀ b, H b ≠ none → b = a ∨ ∃ p ∈ cs, p.2 = b) (hK : H a ≠ none → K.lookup a = none) :
    K.In (hidT s₁.heap H) ∧ (hidT s₁.heap H).Ns mainGlobals mg ∧ (∀ p ∈ cs, TabB (hidT s₁.heap H) mg p.1 p.2) ∧ Env0 P w K mg (hidT s₁.heap H) callerA [] s₁ H := by
  have nsK : ∀ {b : Addr} {m : Str → Option Value}, s₁.heap.Ns b m → (hidT s₁.heap H).Ns b m := fun {b m} ⟨o, es, ep, e, d, r⟩ =>
    ⟨o, es, ep, hidT_get e (not_tracked ha hT hA e (fun us n z => by rw [d] at z; cases z) fun z => by rw [d] at z; cases z), d, r⟩
  have hKb : K.In (hidT s₁.heap H) := fun b o e => hidT_get (KX b o e) (Classical.byContradiction fun z => by
    rcases hA b z with rfl | ⟨p, hp, rfl⟩
    · rw [hK z] at e; cases e
    · rw [nT p hp] at e; cases e)
  obtain ⟨mc, h1, h2⟩ := hlim
  refine ⟨hKb, nsK hns, fun p hp => ⟨?_, ?_, fun z => ?_⟩, ⟨rfl, ⟨hKb, nsK hns, ⟨mb, nsK hb, hbb⟩, ⟨mc, nsK h1, h2⟩⟩, fun b o e => of_hidT e, Nat.le_of_eq (hidT_size _ _), trivial, fun b hb => absurd (show b ∈ ([] : List Addr) from hb) (by simp), hok, .of_eq hg⟩⟩
  · obtain ⟨o, us, file, tf, flags, tg, inF, text, tt, e1, r1, r2, r3, rest⟩ := C p hp
    exact ⟨o, us, file, tf, flags, tg, inF, text, tt, hidT_get e1 (not_tracked ha hT hA e1 (fun us n z => by rw [r2] at z; cases z) fun z => by rw [r2] at z; cases z; simp at r3), r1, r2, r3, rest⟩
  · obtain ⟨bm, ob, b1, b2, b3, b4, b5, b6⟩ := hbm
    refine ⟨bm, ob, b1, b2, fun q => ?_, fun q => ?_, hidT_get b3 (not_tracked ha hT hA b3 (fun us n z => by rw [b6] at z; cases z) fun z => by rw [b6] at z; cases z), b4, b5, b6⟩
    · obtain ⟨o, es, ep, e, hd, _⟩ := hns
      rw [q, e] at b3; cases b3; rw [hd] at b6; cases b6
    · rw [q, hT p hp] at b3; cases b3; cases b6
  · obtain ⟨o, es, ep, e, hd, _⟩ := hns
    rw [z, hT p hp] at e; cases e; cases hd
theorem law_callT (KX : K.In s₁.heap) (hns : s₁.heap.Ns mainGlobals mg) (hb : s₁.heap.Ns builtinsNs mb) (hbb : ∀ x : Str, x ≠ "__name__" → mb x = bootBuiltins x) (hlim : s₁.heap.NoLimit) (hg : s₁.gens = #[])
    (hT : ∀ p ∈ cs, s₁.heap.get? p.2 = some { cls := .none, data := .fields #[] }) (nT : ∀ p ∈ cs, K.lookup p.2 = none) (C : ∀ p ∈ cs, PySem.W.CodeHd s₁.heap p.1 p.2)
    (hbm : ∃ (bm : Addr) (ob : Obj), mg "__builtins__" = some (.ref bm) ∧ bm ≠ builtinsNs ∧ s₁.heap.get? bm = some ob ∧ ob.cls = .type "module" ∧ ob.dict = some builtinsNs ∧ ob.data = .plain)
    (ha : s₁.heap.get? a = some { cls := .type "list", data := .seq vs.toArray }) (hi : IntsAre vs ns) (hl : ns.length ≤ sizeLine) (hr : Room k callerA)
    (F : ∀ base : Heap, K.In base → base.Ns mainGlobals mg → (∀ p ∈ cs, TabB base mg p.1 p.2) → FnOk P w K mg base CX k fa fd [x] sp) (hbind : ∀ (s : Shared) (u : Value), BindsTo s fd ⟨[u], []⟩ [(x, u)])
    (hsp : ∀ H : Hp, (∀ p ∈ cs, H p.2 = some (.tbl #[])) → SqL K H a (ns.map V.int) → sp [.ref a] H (fun v _ => v = .bl true) fun _ _ _ => False)
    (hCX : ∀ H e s', CX [] H s₁ (fun _ _ _ => False) e s' → False) :
    codeAny (model P w) callerA (.call (.ref fa) ⟨[.ref a], []⟩) (fun r s' => r = .ok (.ret (.bool true)) ∧ OldK s₁.heap s'.heap ∧ s'.os = s₁.os ∧ AllBare s'.gens) s₁ := by
  have rv := vals_ints hi
  have aT : ∀ p ∈ cs, p.2 ≠ a := fun p hp z => by
    have q := hT p hp
    rw [z, ha] at q
    cases (congrArg Obj.data (Option.some.inj q) : Data.seq vs.toArray _ = Data.fields #[])
  -- the script, if it is tracked at all, and the tables
  have go : ∀ S : Option HO, (S = none ∨ S = some (.frz { cls := .type "list", data := .seq vs.toArray } (.lst (ns.map V.int))) ∧ K.lookup a = none) → (∀ H : Hp, H a = S → SqL K H a (ns.map V.int)) →
      codeAny (model P w) callerA (.call (.ref fa) ⟨[.ref a], []⟩) (fun r s' => r = .ok (.ret (.bool true)) ∧ OldK s₁.heap s'.heap ∧ s'.os = s₁.os ∧ AllBare s'.gens) s₁ := by
    intro S hS hq
    classical
    let H : Hp := fun b => if b = a then S else if ∃ p ∈ cs, p.2 = b then some (.tbl #[]) else none
    have Ha : H a = S := if_pos rfl
    have Ht : ∀ p ∈ cs, H p.2 = some (.tbl #[]) := fun p hp => (if_neg (aT p hp)).trans (if_pos ⟨p, hp, rfl⟩)
    have cases3 : ∀ b u, H b = some u → (b = a ∧ S = some u) ∨ (∃ p ∈ cs, p.2 = b) ∧ u = .tbl #[] := fun b u z => by
      by_cases e : b = a
      · subst e; exact .inl ⟨rfl, Ha.symm.trans z⟩
      · by_cases e2 : ∃ p ∈ cs, p.2 = b
        · exact .inr ⟨e2, by have := (if_neg e).symm.trans z; rw [if_pos e2] at this; cases this; rfl⟩
        · have := (if_neg e).symm.trans z; rw [if_neg e2] at this; cases this
    have hok : HOk P w H s₁.heap := fun b u z => by
      rcases cases3 b u z with ⟨rfl, e⟩ | ⟨⟨p, hp, rfl⟩, rfl⟩
      · rcases hS with h | ⟨h, _⟩
        · rw [h] at e; cases e
        · rw [h] at e; cases e
          exact ⟨ha, by rw [List.length_map]; exact hl, vs, _, rv, ha⟩
      · exact hT p hp
    obtain ⟨h1, h2, h3, e0⟩ := env_topT (H := H) KX hns hb hbb hlim hg hT nT C hbm ha hok (fun b z => by
      cases q : H b with
      | none => exact absurd q z
      | some u => exact (cases3 b u q).imp (·.1) (·.1)) (fun z => by
      rcases hS with h | ⟨_, h⟩
      · exact absurd (Ha.trans h) z
      · exact h)
    refine codeAny_mono ((F _ h1 h2 h3).run callerA [] s₁ H ⟨[.ref a], []⟩ [.ref a] [.ref a] _ _ hr e0 (hbind s₁ (.ref a)) (.cons rfl .nil) (hsp H Ht (hq H Ha))) fun r s' h => ?_
    match r, h with
    | .error e, h => exact (hCX H e s' h).elim
    | .ok (.ret u), ⟨v, H', os, bare, un, hok', r', q⟩ =>
      subst q
      obtain rfl : u = Value.bool true := r'
      have grown : ∀ p ∈ cs, ∃ more : Array Value, s'.heap.get? p.2 = some { cls := .none, data := .fields more } := fun p hp => by
        obtain ⟨more, z⟩ := un.tbls p.2 #[] (Ht p hp)
        exact ⟨_, hok' p.2 _ z⟩
      have kept : ∀ b o, (¬ ∃ p ∈ cs, p.2 = b) → s₁.heap.get? b = some o → s'.heap.get? b = some o := fun b o nb e => by
        cases z : H b with
        | none => exact un.keep b o e z (by intro y; exact absurd (show b ∈ ([] : List Addr) from y) (by simp)) (by simp)
        | some u =>
          rcases cases3 b u z with ⟨rfl, e2⟩ | ⟨e2, _⟩
          · rcases hS with h | ⟨h, _⟩
            · rw [h] at e2; cases e2
            · rw [h] at e2; cases e2
              obtain ⟨y1, _⟩ := hok b _ z
              obtain ⟨y2, _⟩ := hok' b _ (un.frzs b _ _ z)
              rw [e] at y1; cases y1
              exact y2
          · exact absurd e2 nb
      refine ⟨rfl, ⟨fun b o e => ?_, fun b o e => ?_⟩, os, bare⟩
      · by_cases hb : ∃ p ∈ cs, p.2 = b
        · obtain ⟨p, hp, rfl⟩ := hb
          obtain ⟨more, hm⟩ := grown p hp
          rw [hT p hp] at e
          cases e
          exact .inr (.inl ⟨((C p hp).tab (hT p hp)).isCodeTable, rfl, #[], more, rfl, by rw [Array.empty_append]; exact hm⟩)
        · exact .inl (kept b o hb e)
      · by_cases hb : ∃ p ∈ cs, p.2 = b
        · obtain ⟨p, hp, rfl⟩ := hb
          obtain ⟨more, hm⟩ := grown p hp
          exact ⟨_, hm⟩
        · exact ⟨o, kept b o hb e⟩
  cases hk : K.lookup a with
  | some o =>
    have e := KX a o hk
    rw [ha] at e
    cases e
    exact go none (.inl rfl) fun H _ => .inr ⟨_, vs.toArray, _, hk, rfl, rfl, rfl, by rw [List.size_toArray, hi.length]; exact hl, by simpa using rv⟩
  | none => exact go _ (.inr ⟨rfl, hk⟩) fun H e => .inl (.inr ⟨_, e⟩)
end
/-- what is known of the law at the head's heap -/
def LawAtT (l : PySem.W.OpenLaw) (w : World) (K : PySem.W.Frag) (CX : CXT) (k n : Nat) (x : Str) (mg : Str → Option Value) (fa : Addr) (h : Heap) : Prop :=
  ∃ (fd : FuncData) (cs : List (Addr × Addr)) (sp : Sp), (∀ p ∈ cs, h.get? p.2 = some { cls := .none, data := .fields #[] }) ∧ (∀ p ∈ cs, K.lookup p.2 = none) ∧ (∀ p ∈ cs, PySem.W.CodeHd h p.1 p.2) ∧ (∀ (s : Shared) (u : Value), BindsTo s fd ⟨[u], []⟩ [(x, u)]) ∧
    (∀ (H : Hp) (a : Addr) (ns : List Int), ns.length ≤ n → (∀ p ∈ cs, H p.2 = some (.tbl #[])) → SqL K H a (ns.map V.int) → sp [.ref a] H (fun v _ => v = .bl true) fun _ _ _ => False) ∧
    ∀ base : Heap, K.In base → base.Ns mainGlobals mg → (∀ p ∈ cs, TabB base mg p.1 p.2) → FnOk l.prog w K mg base CX k fa fd [x] sp
theorem walk_ofT {l : PySem.W.OpenLaw} {n k : Nat} {q : Program} {loose : List Str} {XP : (Str → Option Value) → Heap → Prop} {YP : World → Heap → Prop} {d : DefRec} {K : Params → PySem.W.Frag} {CX : World → CXT} {x : Str} (hn : l.most = some n) (hn2 : n ≤ sizeLine) (hdf : d.params.defaults = []) (hr : Room k callerA) (hY : ∀ (w : World) (h : Heap), YP w h → (K w.params).In h)
    (F : ∀ (w : World) (mg : Str → Option Value) (fa : Addr) (h : Heap), (K w.params).In h → h.Ns mainGlobals mg → mg d.name = some (.ref fa) →
      (∀ (x : Str) (c P : Addr), ((recsOf q).any fun e => e.name == x) = true → PySem.W.tabIn (K w.params) x = some (c, P) → PySem.W.CodeHd h c P ∧ h.get? P = some { cls := .none, data := .fields #[] }) → LawAtT l w (K w.params) (CX w) k n x mg fa h)
    (hCX : ∀ (w : World) (H : Hp) (s : Shared) (e : Value) (s' : Shared), CX w [] H s (fun _ _ _ => False) e s' → False) :
    PySem.W.WalkO q loose XP YP l.row.toRowW d [] (fun f vs => PySem.call f vs) := Att.attach_callB hn hdf fun w s₀ s₁ mg mb fa o pm cd doc a vs ns G Y ho hd hcd hmg hobj hints hlen hbits hg => by
  have KX := hY w _ Y
  obtain ⟨fd, cs, sp, hT, nT, C, hb, hsp, hF⟩ := F w mg fa _ KX G.T.g hmg fun x c P hr ht => by
    cases e : (recsOf q).find? fun e => e.name == x with
    | none => rw [List.any_eq_true] at hr; obtain ⟨d, hd, hx⟩ := hr; exact absurd hx (List.find?_eq_none.mp e d hd)
    | some d => exact PySem.W.tab_of G.T KX e ht
  exact law_callT KX G.T.g G.T.b G.T.builtins G.T.nolimit hg hT nT C G.T.bmain hobj hints (Nat.le_trans hlen hn2) hr hF hb (fun H hH hS => hsp H a ns hlen hH hS) fun H e s' => hCX w H s₁ e s'
/-- tables that are empty tell nothing -/
theorem tabs_nil {H : Hp} {T : List (Addr × Str)} (h : ∀ p ∈ T, H p.1 = some (.tbl #[])) : Tabs T H := fun p hp => ⟨#[], h p hp, trivial, fun pos cv e => by cases e⟩
end SL

set_option Elab.async false
set_option linter.all false
set_option maxRecDepth 100000
set_option maxHeartbeats 4000000
namespace DY
open PySem L2 SL
def fdNmsA : List (String × String × String × Bool) := [("is_number", "is_number", "is_number", true)]
open Lean in
def fdOfA (x : Ident) : MacroM Term := do
  let s := x.getId.toString
  let i (p : String) : Ident := mkIdent (Name.mkSimple (p ++ s))
  let (n, q, b) := (fdNmsA.lookup s).getD (s, s, false)
  let d ← if b then `(.ref $(i "dt_")) else `(.none)
  `(PySem.W.fnOf $(quote n) $(quote q) (defArgs $(i "st_")) (defBody $(i "st_")) (defScope $(i "st_")) $d $(i "kV_") $(i "dc_") $(i "pm_") $(i "an_") $(i "cd_") $(i "ct_"))
open Lean in
local macro_rules
  | `(unop% $f:ident $x:ident) => do
    if f.getId != `fd then Macro.throwUnsupported
    if x.getId == `lr then `(by first | exact Or.inl rfl | exact Or.inr rfl) else fdOfA x
section Tbs
variable [Tb]
/-! ### the text by places -/
def topS (i : Nat) : Stmt := PySem.Challenge.pw_slackstrings_k22_errors_limits_and_sampl.main.body.getD i (.Pass ⟨0, 0, 0, 0⟩)
abbrev st_Puppet___eq__ : Stmt := (inClass (topS 81) 6)
abbrev st__law_bag : Stmt := (topS 87)
abbrev st__law_indexes : Stmt := (topS 91)
abbrev st__law_classes : Stmt := (topS 92)
abbrev st__law_is : Stmt := (topS 93)
abbrev st__law_draw : Stmt := (topS 88)
abbrev st__law_one : Stmt := (topS 89)
abbrev st__law_others_right : Stmt := (topS 94)
abbrev st__law_values : Stmt := (topS 90)
abbrev st__law_right : Stmt := (topS 95)
abbrev st_are_great : Stmt := (topS 57)
abbrev st_in_order : Stmt := (topS 58)
abbrev st_check_hooks : Stmt := (topS 75)
abbrev st_are_small : Stmt := (topS 56)
abbrev st_check_parts : Stmt := (topS 72)
abbrev st_is_string : Stmt := (topS 76)
abbrev st_check_strings : Stmt := (topS 77)
abbrev st_is_integer : Stmt := (topS 54)
abbrev st_is_number : Stmt := (topS 55)
abbrev st_is_tie : Stmt := (topS 73)
abbrev st_check_ties : Stmt := (topS 74)
abbrev st_distances_of : Stmt := (topS 78)
abbrev st_Puppet___init__ : Stmt := (inClass (topS 81) 0)
abbrev st_stick_man : Stmt := (topS 84)
abbrev st_two_lines : Stmt := (topS 85)
abbrev st_law : Stmt := (topS 96)
abbrev nm_Puppet___eq__ : List Str := ["self", "other"]
abbrev nm__law_bag : List Str := ["_law_cells", "_law_k", "_law_cell", "_law_seed", "_law_this", "_law_figures"]
abbrev nm__law_indexes : List Str := ["_law_thing", "_law_found"]
abbrev nm__law_classes : List Str := ["_law_e", "_law_found"]
abbrev nm__law_is : List Str := ["_law_e", "_law_at", "_law_found", "_law_bases", "_law_above", "_law_due"]
abbrev nm__law_draw : List Str := ["_law_bag_here", "_law_wide", "_law_figure", "_law_held", "_law_times"]
abbrev nm__law_one : List Str := ["_law_bag_here", "_law_some"]
abbrev nm__law_others_right : List Str := ["_law_thing", "_law_mate", "_law_some", "_law_e", "_law_plain"]
abbrev nm__law_values : List Str := ["_law_thing", "_law_found"]
abbrev nm__law_right : List Str := ["_law_bag_here", "_law_things", "_law_thing", "_law_mate", "_law_found", "_law_spots", "_law_k"]
abbrev nm_are_great : List Str := ["value", "least", "most", "sign"]
abbrev nm_in_order : List Str := ["text", "at"]
abbrev nm_check_hooks : List Str := ["hooks"]
abbrev nm_are_small : List Str := ["value", "least", "most", "sign"]
abbrev nm_check_parts : List Str := ["parts", "index", "part"]
abbrev nm_is_string : List Str := ["parts", "hooks", "before", "value"]
abbrev nm_check_strings : List Str := ["parts", "hooks", "strings", "before", "index", "string"]
abbrev nm_is_integer : List Str := ["value"]
abbrev nm_is_number : List Str := ["value", "most"]
abbrev nm_is_tie : List Str := ["parts", "tied", "value", "part", "other"]
abbrev nm_check_ties : List Str := ["parts", "ties", "tied", "index", "tie"]
abbrev nm_distances_of : List Str := ["parts", "ties", "found", "part", "other", "reach", "middle", "way"]
abbrev nm_Puppet___init__ : List Str := ["self", "parts", "ties", "hooks", "strings", "string"]
abbrev nm_stick_man : List Str := ["ties", "strings"]
abbrev nm_two_lines : List Str := []
abbrev nm_law : List Str := ["_law_cells", "_law_limits", "_law_man", "_law_pair", "_law_found", "_law_k"]
theorem sc_Puppet___eq__ : FnScope nm_Puppet___eq__ ["self", "other"] (defScope st_Puppet___eq__) := ⟨rfl, rfl, rfl, by decide +kernel, rfl, by decide +kernel, by decide +kernel⟩
theorem sc__law_bag : FnScope nm__law_bag ["_law_cells", "_law_k"] (defScope st__law_bag) := ⟨rfl, rfl, rfl, by decide +kernel, rfl, by decide +kernel, by decide +kernel⟩
theorem sc__law_indexes : FnScope nm__law_indexes ["_law_thing"] (defScope st__law_indexes) := ⟨rfl, rfl, rfl, by decide +kernel, rfl, by decide +kernel, by decide +kernel⟩
theorem sc__law_classes : FnScope nm__law_classes ["_law_e"] (defScope st__law_classes) := ⟨rfl, rfl, rfl, by decide +kernel, rfl, by decide +kernel, by decide +kernel⟩
theorem sc__law_is : FnScope nm__law_is ["_law_e", "_law_at"] (defScope st__law_is) := ⟨rfl, rfl, rfl, by decide +kernel, rfl, by decide +kernel, by decide +kernel⟩
theorem sc__law_draw : FnScope nm__law_draw ["_law_bag_here", "_law_wide"] (defScope st__law_draw) := ⟨rfl, rfl, rfl, by decide +kernel, rfl, by decide +kernel, by decide +kernel⟩
theorem sc__law_one : FnScope nm__law_one ["_law_bag_here", "_law_some"] (defScope st__law_one) := ⟨rfl, rfl, rfl, by decide +kernel, rfl, by decide +kernel, by decide +kernel⟩
theorem sc__law_others_right : FnScope nm__law_others_right ["_law_thing", "_law_mate"] (defScope st__law_others_right) := ⟨rfl, rfl, rfl, by decide +kernel, rfl, by decide +kernel, by decide +kernel⟩
theorem sc__law_values : FnScope nm__law_values ["_law_thing"] (defScope st__law_values) := ⟨rfl, rfl, rfl, by decide +kernel, rfl, by decide +kernel, by decide +kernel⟩
theorem sc__law_right : FnScope nm__law_right ["_law_bag_here"] (defScope st__law_right) := ⟨rfl, rfl, rfl, by decide +kernel, rfl, by decide +kernel, by decide +kernel⟩
theorem sc_are_great : FnScope nm_are_great ["value", "least", "most"] (defScope st_are_great) := ⟨rfl, rfl, rfl, by decide +kernel, rfl, by decide +kernel, by decide +kernel⟩
theorem sc_in_order : FnScope nm_in_order ["text"] (defScope st_in_order) := ⟨rfl, rfl, rfl, by decide +kernel, rfl, by decide +kernel, by decide +kernel⟩
theorem sc_check_hooks : FnScope nm_check_hooks ["hooks"] (defScope st_check_hooks) := ⟨rfl, rfl, rfl, by decide +kernel, rfl, by decide +kernel, by decide +kernel⟩
theorem sc_are_small : FnScope nm_are_small ["value", "least", "most"] (defScope st_are_small) := ⟨rfl, rfl, rfl, by decide +kernel, rfl, by decide +kernel, by decide +kernel⟩
theorem sc_check_parts : FnScope nm_check_parts ["parts"] (defScope st_check_parts) := ⟨rfl, rfl, rfl, by decide +kernel, rfl, by decide +kernel, by decide +kernel⟩
theorem sc_is_string : FnScope nm_is_string ["parts", "hooks", "before", "value"] (defScope st_is_string) := ⟨rfl, rfl, rfl, by decide +kernel, rfl, by decide +kernel, by decide +kernel⟩
theorem sc_check_strings : FnScope nm_check_strings ["parts", "hooks", "strings"] (defScope st_check_strings) := ⟨rfl, rfl, rfl, by decide +kernel, rfl, by decide +kernel, by decide +kernel⟩
theorem sc_is_integer : FnScope nm_is_integer ["value"] (defScope st_is_integer) := ⟨rfl, rfl, rfl, by decide +kernel, rfl, by decide +kernel, by decide +kernel⟩
theorem sc_is_number : FnScope nm_is_number ["value", "most"] (defScope st_is_number) := ⟨rfl, rfl, rfl, by decide +kernel, rfl, by decide +kernel, by decide +kernel⟩
theorem sc_is_tie : FnScope nm_is_tie ["parts", "tied", "value"] (defScope st_is_tie) := ⟨rfl, rfl, rfl, by decide +kernel, rfl, by decide +kernel, by decide +kernel⟩
theorem sc_check_ties : FnScope nm_check_ties ["parts", "ties"] (defScope st_check_ties) := ⟨rfl, rfl, rfl, by decide +kernel, rfl, by decide +kernel, by decide +kernel⟩
theorem sc_distances_of : FnScope nm_distances_of ["parts", "ties"] (defScope st_distances_of) := ⟨rfl, rfl, rfl, by decide +kernel, rfl, by decide +kernel, by decide +kernel⟩
theorem sc_Puppet___init__ : FnScope nm_Puppet___init__ ["self", "parts", "ties", "hooks", "strings"] (defScope st_Puppet___init__) := ⟨rfl, rfl, rfl, by decide +kernel, rfl, by decide +kernel, by decide +kernel⟩
theorem sc_stick_man : FnScope nm_stick_man [] (defScope st_stick_man) := ⟨rfl, rfl, rfl, by decide +kernel, rfl, by decide +kernel, by decide +kernel⟩
theorem sc_two_lines : FnScope nm_two_lines [] (defScope st_two_lines) := ⟨rfl, rfl, rfl, by decide +kernel, rfl, by decide +kernel, by decide +kernel⟩
theorem sc_law : FnScope nm_law ["_law_cells"] (defScope st_law) := ⟨rfl, rfl, rfl, by decide +kernel, rfl, by decide +kernel, by decide +kernel⟩
/-- the defs' addresses and data -/
structure Fx where
  f_Puppet___eq__ : Addr
  d_Puppet___eq__ : FuncData
  f__law_bag : Addr
  d__law_bag : FuncData
  f__law_indexes : Addr
  d__law_indexes : FuncData
  f__law_classes : Addr
  d__law_classes : FuncData
  f__law_is : Addr
  d__law_is : FuncData
  f__law_draw : Addr
  d__law_draw : FuncData
  f__law_one : Addr
  d__law_one : FuncData
  f__law_others_right : Addr
  d__law_others_right : FuncData
  f__law_values : Addr
  d__law_values : FuncData
  f__law_right : Addr
  d__law_right : FuncData
  f_are_great : Addr
  d_are_great : FuncData
  f_in_order : Addr
  d_in_order : FuncData
  f_check_hooks : Addr
  d_check_hooks : FuncData
  f_are_small : Addr
  d_are_small : FuncData
  f_check_parts : Addr
  d_check_parts : FuncData
  f_is_string : Addr
  d_is_string : FuncData
  f_check_strings : Addr
  d_check_strings : FuncData
  f_is_integer : Addr
  d_is_integer : FuncData
  f_is_number : Addr
  d_is_number : FuncData
  f_is_tie : Addr
  d_is_tie : FuncData
  f_check_ties : Addr
  d_check_ties : FuncData
  f_distances_of : Addr
  d_distances_of : FuncData
  f_Puppet___init__ : Addr
  d_Puppet___init__ : FuncData
  f_stick_man : Addr
  d_stick_man : FuncData
  f_two_lines : Addr
  d_two_lines : FuncData
  f_law : Addr
  d_law : FuncData
/-- what the top has written -/
structure Txt (K : PySem.W.Frag) (mg : Str → Option Value) (base : Heap) (A : CT) (x : Fx) : Prop where
  kd : KD K A
  b0 : ∀ p, Tb.base p = none
  in_Puppet : 2 ∈ A.cs
  F_Puppet___eq__ : Fun K "__eq__" "Puppet.__eq__" st_Puppet___eq__ x.f_Puppet___eq__ x.d_Puppet___eq__
  b_Puppet___eq__ : Binds K x.d_Puppet___eq__ ["self", "other"] []
  F__law_bag : Fun K "_law_bag" "_law_bag" st__law_bag x.f__law_bag x.d__law_bag
  b__law_bag : Binds K x.d__law_bag ["_law_cells", "_law_k"] []
  F__law_indexes : Fun K "_law_indexes" "_law_indexes" st__law_indexes x.f__law_indexes x.d__law_indexes
  b__law_indexes : Binds K x.d__law_indexes ["_law_thing"] []
  F__law_classes : Fun K "_law_classes" "_law_classes" st__law_classes x.f__law_classes x.d__law_classes
  b__law_classes : Binds K x.d__law_classes ["_law_e"] []
  F__law_is : Fun K "_law_is" "_law_is" st__law_is x.f__law_is x.d__law_is
  b__law_is : Binds K x.d__law_is ["_law_e", "_law_at"] []
  F__law_draw : Fun K "_law_draw" "_law_draw" st__law_draw x.f__law_draw x.d__law_draw
  b__law_draw : Binds K x.d__law_draw ["_law_bag_here", "_law_wide"] []
  F__law_one : Fun K "_law_one" "_law_one" st__law_one x.f__law_one x.d__law_one
  b__law_one : Binds K x.d__law_one ["_law_bag_here", "_law_some"] []
  F__law_others_right : Fun K "_law_others_right" "_law_others_right" st__law_others_right x.f__law_others_right x.d__law_others_right
  b__law_others_right : Binds K x.d__law_others_right ["_law_thing", "_law_mate"] []
  F__law_values : Fun K "_law_values" "_law_values" st__law_values x.f__law_values x.d__law_values
  b__law_values : Binds K x.d__law_values ["_law_thing"] []
  F__law_right : Fun K "_law_right" "_law_right" st__law_right x.f__law_right x.d__law_right
  b__law_right : Binds K x.d__law_right ["_law_bag_here"] []
  F_are_great : Fun K "are_great" "are_great" st_are_great x.f_are_great x.d_are_great
  b_are_great : Binds K x.d_are_great ["value", "least", "most"] []
  F_in_order : Fun K "in_order" "in_order" st_in_order x.f_in_order x.d_in_order
  b_in_order : Binds K x.d_in_order ["text"] []
  F_check_hooks : Fun K "check_hooks" "check_hooks" st_check_hooks x.f_check_hooks x.d_check_hooks
  b_check_hooks : Binds K x.d_check_hooks ["hooks"] []
  F_are_small : Fun K "are_small" "are_small" st_are_small x.f_are_small x.d_are_small
  b_are_small : Binds K x.d_are_small ["value", "least", "most"] []
  F_check_parts : Fun K "check_parts" "check_parts" st_check_parts x.f_check_parts x.d_check_parts
  b_check_parts : Binds K x.d_check_parts ["parts"] []
  F_is_string : Fun K "is_string" "is_string" st_is_string x.f_is_string x.d_is_string
  b_is_string : Binds K x.d_is_string ["parts", "hooks", "before", "value"] []
  F_check_strings : Fun K "check_strings" "check_strings" st_check_strings x.f_check_strings x.d_check_strings
  b_check_strings : Binds K x.d_check_strings ["parts", "hooks", "strings"] []
  F_is_integer : Fun K "is_integer" "is_integer" st_is_integer x.f_is_integer x.d_is_integer
  b_is_integer : Binds K x.d_is_integer ["value"] []
  F_is_number : FunD K "is_number" "is_number" (defArgs st_is_number) (defBody st_is_number) (defScope st_is_number) [.non] [] x.f_is_number x.d_is_number
  b_is_number : Binds K x.d_is_number ["value", "most"] []
  F_is_tie : Fun K "is_tie" "is_tie" st_is_tie x.f_is_tie x.d_is_tie
  b_is_tie : Binds K x.d_is_tie ["parts", "tied", "value"] []
  F_check_ties : Fun K "check_ties" "check_ties" st_check_ties x.f_check_ties x.d_check_ties
  b_check_ties : Binds K x.d_check_ties ["parts", "ties"] []
  F_distances_of : Fun K "distances_of" "distances_of" st_distances_of x.f_distances_of x.d_distances_of
  b_distances_of : Binds K x.d_distances_of ["parts", "ties"] []
  F_Puppet___init__ : Fun K "__init__" "Puppet.__init__" st_Puppet___init__ x.f_Puppet___init__ x.d_Puppet___init__
  b_Puppet___init__ : Binds K x.d_Puppet___init__ ["self", "parts", "ties", "hooks", "strings"] []
  F_stick_man : Fun K "stick_man" "stick_man" st_stick_man x.f_stick_man x.d_stick_man
  b_stick_man : Binds K x.d_stick_man [] []
  F_two_lines : Fun K "two_lines" "two_lines" st_two_lines x.f_two_lines x.d_two_lines
  b_two_lines : Binds K x.d_two_lines [] []
  F_law : Fun K "law" "law" st_law x.f_law x.d_law
  b_law : Binds K x.d_law ["_law_cells"] []
  g_ShapeError : mg "ShapeError" = some (.ref (A.ad 20))
  g_InvalidNumber : mg "InvalidNumber" = some (.ref (A.ad 21))
  g_InvalidText : mg "InvalidText" = some (.ref (A.ad 22))
  g_InvalidForm : mg "InvalidForm" = some (.ref (A.ad 23))
  g_InvalidName : mg "InvalidName" = some (.ref (A.ad 24))
  g_InvalidFacts : mg "InvalidFacts" = some (.ref (A.ad 25))
  g_InvalidParts : mg "InvalidParts" = some (.ref (A.ad 26))
  g_InvalidTies : mg "InvalidTies" = some (.ref (A.ad 27))
  g_InvalidHooks : mg "InvalidHooks" = some (.ref (A.ad 28))
  g_InvalidStrings : mg "InvalidStrings" = some (.ref (A.ad 29))
  g_InvalidHeights : mg "InvalidHeights" = some (.ref (A.ad 30))
  g_InvalidLengths : mg "InvalidLengths" = some (.ref (A.ad 31))
  g_InvalidMoves : mg "InvalidMoves" = some (.ref (A.ad 32))
  g_InvalidMoment : mg "InvalidMoment" = some (.ref (A.ad 33))
  g_InvalidLevel : mg "InvalidLevel" = some (.ref (A.ad 34))
  g_InvalidWish : mg "InvalidWish" = some (.ref (A.ad 35))
  g_InvalidSights : mg "InvalidSights" = some (.ref (A.ad 36))
  g_InvalidGuards : mg "InvalidGuards" = some (.ref (A.ad 37))
  g_InvalidLine : mg "InvalidLine" = some (.ref (A.ad 38))
  g_NotFacts : mg "NotFacts" = some (.ref (A.ad 39))
  g_NotAPuppet : mg "NotAPuppet" = some (.ref (A.ad 40))
  g_NotAScript : mg "NotAScript" = some (.ref (A.ad 41))
  g_NotARun : mg "NotARun" = some (.ref (A.ad 42))
  g_NotAWish : mg "NotAWish" = some (.ref (A.ad 43))
  g_QuestionError : mg "QuestionError" = some (.ref (A.ad 44))
  g_UnknownPart : mg "UnknownPart" = some (.ref (A.ad 45))
  g_UnknownHook : mg "UnknownHook" = some (.ref (A.ad 46))
  g_UnknownName : mg "UnknownName" = some (.ref (A.ad 47))
  g_NoWay : mg "NoWay" = some (.ref (A.ad 48))
  g_OtherNames : mg "OtherNames" = some (.ref (A.ad 49))
  g_OtherParts : mg "OtherParts" = some (.ref (A.ad 50))
  g_Contradictory : mg "Contradictory" = some (.ref (A.ad 51))
  g_Never : mg "Never" = some (.ref (A.ad 52))
  g_Busy : mg "Busy" = some (.ref (A.ad 53))
  g_NothingToUndo : mg "NothingToUndo" = some (.ref (A.ad 54))
  g_Refused : mg "Refused" = some (.ref (A.ad 55))
  g_SizeError : mg "SizeError" = some (.ref (A.ad 56))
  g_TooMany : mg "TooMany" = some (.ref (A.ad 57))
  sm : ∃ o, K.lookup sysModules = some o ∧ o.cls = .type "dict"
  xa : ∀ c ∈ A.xs, SL.XA K (A.ad c)
  hkx : ∀ c ∈ A.xs, ∀ y ∈ ysL A.ad, PySem.W.kitOne K (.ref (A.ad c)) y.1 = some (y.2.contains c)
  gx_given : ∀ c ∈ A.xs, ∀ i, atTb xt_given c = some i → (A.nms c)[i]? = some "given" ∧ (A.nms c).Nodup ∧ PySem.W.findIn K (.ref (A.ad c)) "given" = some none
  gx_index : ∀ c ∈ A.xs, ∀ i, atTb xt_index c = some i → (A.nms c)[i]? = some "index" ∧ (A.nms c).Nodup ∧ PySem.W.findIn K (.ref (A.ad c)) "index" = some none
  gx_limit : ∀ c ∈ A.xs, ∀ i, atTb xt_limit c = some i → (A.nms c)[i]? = some "limit" ∧ (A.nms c).Nodup ∧ PySem.W.findIn K (.ref (A.ad c)) "limit" = some none
  gx_move : ∀ c ∈ A.xs, ∀ i, atTb xt_move c = some i → (A.nms c)[i]? = some "move" ∧ (A.nms c).Nodup ∧ PySem.W.findIn K (.ref (A.ad c)) "move" = some none
  gx_shown : ∀ c ∈ A.xs, ∀ i, atTb xt_shown c = some i → (A.nms c)[i]? = some "shown" ∧ (A.nms c).Nodup ∧ PySem.W.findIn K (.ref (A.ad c)) "shown" = some none
  gx_value : ∀ c ∈ A.xs, ∀ i, atTb xt_value c = some i → (A.nms c)[i]? = some "value" ∧ (A.nms c).Nodup ∧ PySem.W.findIn K (.ref (A.ad c)) "value" = some none
  gx_weights : ∀ c ∈ A.xs, ∀ i, atTb xt_weights c = some i → (A.nms c)[i]? = some "weights" ∧ (A.nms c).Nodup ∧ PySem.W.findIn K (.ref (A.ad c)) "weights" = some none
  xin_InvalidNumber : 21 ∈ A.xs
  xl_InvalidNumber : (A.nms 21).length = 1
  xv_InvalidNumber : XVl K (A.ad 21) (A.nms 21) ["value"] [0]
  kpx_InvalidNumber : PySem.W.keepIn K (.ref (A.ad 21)) = true
  xin_InvalidText : 22 ∈ A.xs
  xl_InvalidText : (A.nms 22).length = 1
  xv_InvalidText : XVl K (A.ad 22) (A.nms 22) ["value"] [0]
  kpx_InvalidText : PySem.W.keepIn K (.ref (A.ad 22)) = true
  xin_InvalidForm : 23 ∈ A.xs
  xl_InvalidForm : (A.nms 23).length = 1
  xv_InvalidForm : XVl K (A.ad 23) (A.nms 23) ["value"] [0]
  kpx_InvalidForm : PySem.W.keepIn K (.ref (A.ad 23)) = true
  xin_InvalidName : 24 ∈ A.xs
  xl_InvalidName : (A.nms 24).length = 1
  xv_InvalidName : XVl K (A.ad 24) (A.nms 24) ["value"] [0]
  kpx_InvalidName : PySem.W.keepIn K (.ref (A.ad 24)) = true
  xin_InvalidFacts : 25 ∈ A.xs
  xl_InvalidFacts : (A.nms 25).length = 1
  xv_InvalidFacts : XVl K (A.ad 25) (A.nms 25) ["index"] [0]
  kpx_InvalidFacts : PySem.W.keepIn K (.ref (A.ad 25)) = true
  xin_InvalidParts : 26 ∈ A.xs
  xl_InvalidParts : (A.nms 26).length = 1
  xv_InvalidParts : XVl K (A.ad 26) (A.nms 26) ["index"] [0]
  kpx_InvalidParts : PySem.W.keepIn K (.ref (A.ad 26)) = true
  xin_InvalidTies : 27 ∈ A.xs
  xl_InvalidTies : (A.nms 27).length = 1
  xv_InvalidTies : XVl K (A.ad 27) (A.nms 27) ["index"] [0]
  kpx_InvalidTies : PySem.W.keepIn K (.ref (A.ad 27)) = true
  xin_InvalidHooks : 28 ∈ A.xs
  xl_InvalidHooks : (A.nms 28).length = 1
  xv_InvalidHooks : XVl K (A.ad 28) (A.nms 28) ["value"] [0]
  kpx_InvalidHooks : PySem.W.keepIn K (.ref (A.ad 28)) = true
  xin_InvalidStrings : 29 ∈ A.xs
  xl_InvalidStrings : (A.nms 29).length = 1
  xv_InvalidStrings : XVl K (A.ad 29) (A.nms 29) ["index"] [0]
  kpx_InvalidStrings : PySem.W.keepIn K (.ref (A.ad 29)) = true
  xin_InvalidHeights : 30 ∈ A.xs
  xl_InvalidHeights : (A.nms 30).length = 1
  xv_InvalidHeights : XVl K (A.ad 30) (A.nms 30) ["value"] [0]
  kpx_InvalidHeights : PySem.W.keepIn K (.ref (A.ad 30)) = true
  xin_InvalidLengths : 31 ∈ A.xs
  xl_InvalidLengths : (A.nms 31).length = 1
  xv_InvalidLengths : XVl K (A.ad 31) (A.nms 31) ["value"] [0]
  kpx_InvalidLengths : PySem.W.keepIn K (.ref (A.ad 31)) = true
  xin_InvalidMoves : 32 ∈ A.xs
  xl_InvalidMoves : (A.nms 32).length = 1
  xv_InvalidMoves : XVl K (A.ad 32) (A.nms 32) ["index"] [0]
  kpx_InvalidMoves : PySem.W.keepIn K (.ref (A.ad 32)) = true
  xin_InvalidMoment : 33 ∈ A.xs
  xl_InvalidMoment : (A.nms 33).length = 1
  xv_InvalidMoment : XVl K (A.ad 33) (A.nms 33) ["value"] [0]
  kpx_InvalidMoment : PySem.W.keepIn K (.ref (A.ad 33)) = true
  xin_InvalidLevel : 34 ∈ A.xs
  xl_InvalidLevel : (A.nms 34).length = 1
  xv_InvalidLevel : XVl K (A.ad 34) (A.nms 34) ["value"] [0]
  kpx_InvalidLevel : PySem.W.keepIn K (.ref (A.ad 34)) = true
  xin_InvalidWish : 35 ∈ A.xs
  xl_InvalidWish : (A.nms 35).length = 1
  xv_InvalidWish : XVl K (A.ad 35) (A.nms 35) ["value"] [0]
  kpx_InvalidWish : PySem.W.keepIn K (.ref (A.ad 35)) = true
  xin_InvalidSights : 36 ∈ A.xs
  xl_InvalidSights : (A.nms 36).length = 1
  xv_InvalidSights : XVl K (A.ad 36) (A.nms 36) ["index"] [0]
  kpx_InvalidSights : PySem.W.keepIn K (.ref (A.ad 36)) = true
  xin_InvalidGuards : 37 ∈ A.xs
  xl_InvalidGuards : (A.nms 37).length = 1
  xv_InvalidGuards : XVl K (A.ad 37) (A.nms 37) ["index"] [0]
  kpx_InvalidGuards : PySem.W.keepIn K (.ref (A.ad 37)) = true
  xin_InvalidLine : 38 ∈ A.xs
  xl_InvalidLine : (A.nms 38).length = 1
  xv_InvalidLine : XVl K (A.ad 38) (A.nms 38) ["value"] [0]
  kpx_InvalidLine : PySem.W.keepIn K (.ref (A.ad 38)) = true
  xin_NotFacts : 39 ∈ A.xs
  xl_NotFacts : (A.nms 39).length = 1
  xv_NotFacts : XVl K (A.ad 39) (A.nms 39) ["value"] [0]
  kpx_NotFacts : PySem.W.keepIn K (.ref (A.ad 39)) = true
  xin_NotAPuppet : 40 ∈ A.xs
  xl_NotAPuppet : (A.nms 40).length = 1
  xv_NotAPuppet : XVl K (A.ad 40) (A.nms 40) ["value"] [0]
  kpx_NotAPuppet : PySem.W.keepIn K (.ref (A.ad 40)) = true
  xin_NotAScript : 41 ∈ A.xs
  xl_NotAScript : (A.nms 41).length = 1
  xv_NotAScript : XVl K (A.ad 41) (A.nms 41) ["value"] [0]
  kpx_NotAScript : PySem.W.keepIn K (.ref (A.ad 41)) = true
  xin_NotARun : 42 ∈ A.xs
  xl_NotARun : (A.nms 42).length = 1
  xv_NotARun : XVl K (A.ad 42) (A.nms 42) ["value"] [0]
  kpx_NotARun : PySem.W.keepIn K (.ref (A.ad 42)) = true
  xin_NotAWish : 43 ∈ A.xs
  xl_NotAWish : (A.nms 43).length = 1
  xv_NotAWish : XVl K (A.ad 43) (A.nms 43) ["value"] [0]
  kpx_NotAWish : PySem.W.keepIn K (.ref (A.ad 43)) = true
  xin_UnknownPart : 45 ∈ A.xs
  xl_UnknownPart : (A.nms 45).length = 1
  xv_UnknownPart : XVl K (A.ad 45) (A.nms 45) ["value"] [0]
  kpx_UnknownPart : PySem.W.keepIn K (.ref (A.ad 45)) = true
  xin_UnknownHook : 46 ∈ A.xs
  xl_UnknownHook : (A.nms 46).length = 1
  xv_UnknownHook : XVl K (A.ad 46) (A.nms 46) ["value"] [0]
  kpx_UnknownHook : PySem.W.keepIn K (.ref (A.ad 46)) = true
  xin_UnknownName : 47 ∈ A.xs
  xl_UnknownName : (A.nms 47).length = 1
  xv_UnknownName : XVl K (A.ad 47) (A.nms 47) ["value"] [0]
  kpx_UnknownName : PySem.W.keepIn K (.ref (A.ad 47)) = true
  xin_NoWay : 48 ∈ A.xs
  xl_NoWay : (A.nms 48).length = 1
  xv_NoWay : XVl K (A.ad 48) (A.nms 48) ["index"] [0]
  kpx_NoWay : PySem.W.keepIn K (.ref (A.ad 48)) = true
  xin_OtherNames : 49 ∈ A.xs
  xl_OtherNames : (A.nms 49).length = 1
  xv_OtherNames : XVl K (A.ad 49) (A.nms 49) ["given"] [0]
  kpx_OtherNames : PySem.W.keepIn K (.ref (A.ad 49)) = true
  xin_OtherParts : 50 ∈ A.xs
  xl_OtherParts : (A.nms 50).length = 1
  xv_OtherParts : XVl K (A.ad 50) (A.nms 50) ["given"] [0]
  kpx_OtherParts : PySem.W.keepIn K (.ref (A.ad 50)) = true
  xin_Contradictory : 51 ∈ A.xs
  xl_Contradictory : (A.nms 51).length = 1
  xv_Contradictory : XVl K (A.ad 51) (A.nms 51) ["weights"] [0]
  kpx_Contradictory : PySem.W.keepIn K (.ref (A.ad 51)) = true
  xin_Never : 52 ∈ A.xs
  xl_Never : (A.nms 52).length = 0
  xm_Never : A.nms 52 = []
  xv_Never : SL.XMk K (A.ad 52) (A.nms 52) [] [] []
  kpx_Never : PySem.W.keepIn K (.ref (A.ad 52)) = true
  xin_Busy : 53 ∈ A.xs
  xl_Busy : (A.nms 53).length = 0
  xm_Busy : A.nms 53 = []
  xv_Busy : SL.XMk K (A.ad 53) (A.nms 53) [] [] []
  kpx_Busy : PySem.W.keepIn K (.ref (A.ad 53)) = true
  xin_NothingToUndo : 54 ∈ A.xs
  xl_NothingToUndo : (A.nms 54).length = 0
  xm_NothingToUndo : A.nms 54 = []
  xv_NothingToUndo : SL.XMk K (A.ad 54) (A.nms 54) [] [] []
  kpx_NothingToUndo : PySem.W.keepIn K (.ref (A.ad 54)) = true
  xin_Refused : 55 ∈ A.xs
  xl_Refused : (A.nms 55).length = 2
  xv_Refused : XVl K (A.ad 55) (A.nms 55) ["shown", "move"] [1, 0]
  kpx_Refused : PySem.W.keepIn K (.ref (A.ad 55)) = true
  xin_TooMany : 57 ∈ A.xs
  xl_TooMany : (A.nms 57).length = 1
  xv_TooMany : XVl K (A.ad 57) (A.nms 57) ["limit"] [0]
  kpx_TooMany : PySem.W.keepIn K (.ref (A.ad 57)) = true
  g__law_bag : mg "_law_bag" = some (.ref x.f__law_bag)
  g__law_classes : mg "_law_classes" = some (.ref x.f__law_classes)
  g__law_draw : mg "_law_draw" = some (.ref x.f__law_draw)
  g__law_indexes : mg "_law_indexes" = some (.ref x.f__law_indexes)
  g__law_is : mg "_law_is" = some (.ref x.f__law_is)
  g__law_one : mg "_law_one" = some (.ref x.f__law_one)
  g__law_others_right : mg "_law_others_right" = some (.ref x.f__law_others_right)
  g__law_right : mg "_law_right" = some (.ref x.f__law_right)
  g__law_values : mg "_law_values" = some (.ref x.f__law_values)
  g_are_great : mg "are_great" = some (.ref x.f_are_great)
  g_are_small : mg "are_small" = some (.ref x.f_are_small)
  g_check_hooks : mg "check_hooks" = some (.ref x.f_check_hooks)
  g_check_parts : mg "check_parts" = some (.ref x.f_check_parts)
  g_check_strings : mg "check_strings" = some (.ref x.f_check_strings)
  g_check_ties : mg "check_ties" = some (.ref x.f_check_ties)
  g_distances_of : mg "distances_of" = some (.ref x.f_distances_of)
  g_in_order : mg "in_order" = some (.ref x.f_in_order)
  g_is_integer : mg "is_integer" = some (.ref x.f_is_integer)
  g_is_number : mg "is_number" = some (.ref x.f_is_number)
  g_is_string : mg "is_string" = some (.ref x.f_is_string)
  g_is_tie : mg "is_tie" = some (.ref x.f_is_tie)
  g_stick_man : mg "stick_man" = some (.ref x.f_stick_man)
  g_two_lines : mg "two_lines" = some (.ref x.f_two_lines)
  n_ArithmeticError : mg "ArithmeticError" = none
  n_LookupError : mg "LookupError" = none
  n_ValueError : mg "ValueError" = none
  n_abs : mg "abs" = none
  n_all : mg "all" = none
  n_bool : mg "bool" = none
  n_enumerate : mg "enumerate" = none
  n_int : mg "int" = none
  n_isinstance : mg "isinstance" = none
  n_len : mg "len" = none
  n_max : mg "max" = none
  n_min : mg "min" = none
  n_range : mg "range" = none
  n_repr : mg "repr" = none
  n_str : mg "str" = none
  n_tuple : mg "tuple" = none
  k_MOST_AMOUNT : ∃ t, mg "MOST_AMOUNT" = some (.int 1000000 t)
  k_MOST_DEPTH : ∃ t, mg "MOST_DEPTH" = some (.int 4 t)
  k_MOST_FACTS : ∃ t, mg "MOST_FACTS" = some (.int 8 t)
  k_MOST_GUARDS : ∃ t, mg "MOST_GUARDS" = some (.int 4 t)
  k_MOST_HAULS : ∃ t, mg "MOST_HAULS" = some (.int 3 t)
  k_MOST_HOOKS : ∃ t, mg "MOST_HOOKS" = some (.int 4 t)
  k_MOST_MOVES : ∃ t, mg "MOST_MOVES" = some (.int 6 t)
  k_MOST_OVERS : ∃ t, mg "MOST_OVERS" = some (.int 8 t)
  k_MOST_PARTS : ∃ t, mg "MOST_PARTS" = some (.int 6 t)
  k_MOST_SIGHTS : ∃ t, mg "MOST_SIGHTS" = some (.int 6 t)
  k_MOST_STRINGS : ∃ t, mg "MOST_STRINGS" = some (.int 6 t)
  k_MOST_TIES : ∃ t, mg "MOST_TIES" = some (.int 10 t)
  k_MOST_WISHES : ∃ t, mg "MOST_WISHES" = some (.int 6 t)
  g_Puppet : mg "Puppet" = some (.ref (A.ad 2))
  cl_Puppet : Cls K (A.ad 2)
  nl_Puppet : (A.nms 2).length ≤ 900
  sf_Puppet : PySem.W.selfFirst K (A.ad 2) = true
  int_Puppet : PySem.W.subIn K (.type "int") (.ref (A.ad 2)) = some false
  sub_Puppet : PySem.W.subIn K (.ref (A.ad 2)) (.type "int") = some false
  mk_Puppet : Mk K (A.ad 2) x.f_Puppet___init__
  fl_Puppet_hooks : FldOk K A 2 2 "hooks"
  fl_Puppet_names : FldOk K A 2 4 "names"
  fl_Puppet_parts : FldOk K A 2 0 "parts"
  fl_Puppet_strings : FldOk K A 2 3 "strings"
  fl_Puppet_ties : FldOk K A 2 1 "ties"
  fl_Puppet_ways : FldOk K A 2 5 "ways"
  o_Puppet_eq : OwnOp K (A.ad 2) x.f_Puppet___eq__ "__eq__"
  ne_Puppet : PySem.W.findIn K (.ref (A.ad 2)) "__ne__" = some (some (.builtin "object.__ne__"))
  ob_Puppet : PySem.W.subIn K (.ref (A.ad 2)) (.type "object") = some true
theorem Txt.kp_Puppet___eq__ {K : PySem.W.Frag} {mg : Str → Option Value} {base : Heap} {A : CT} {x : Fx} (T : Txt K mg base A x) : PySem.W.keepIn K (.ref x.f_Puppet___eq__) = true := T.F_Puppet___eq__.kp
theorem Txt.kp__law_bag {K : PySem.W.Frag} {mg : Str → Option Value} {base : Heap} {A : CT} {x : Fx} (T : Txt K mg base A x) : PySem.W.keepIn K (.ref x.f__law_bag) = true := T.F__law_bag.kp
theorem Txt.kp__law_indexes {K : PySem.W.Frag} {mg : Str → Option Value} {base : Heap} {A : CT} {x : Fx} (T : Txt K mg base A x) : PySem.W.keepIn K (.ref x.f__law_indexes) = true := T.F__law_indexes.kp
theorem Txt.kp__law_classes {K : PySem.W.Frag} {mg : Str → Option Value} {base : Heap} {A : CT} {x : Fx} (T : Txt K mg base A x) : PySem.W.keepIn K (.ref x.f__law_classes) = true := T.F__law_classes.kp
theorem Txt.kp__law_is {K : PySem.W.Frag} {mg : Str → Option Value} {base : Heap} {A : CT} {x : Fx} (T : Txt K mg base A x) : PySem.W.keepIn K (.ref x.f__law_is) = true := T.F__law_is.kp
theorem Txt.kp__law_draw {K : PySem.W.Frag} {mg : Str → Option Value} {base : Heap} {A : CT} {x : Fx} (T : Txt K mg base A x) : PySem.W.keepIn K (.ref x.f__law_draw) = true := T.F__law_draw.kp
theorem Txt.kp__law_one {K : PySem.W.Frag} {mg : Str → Option Value} {base : Heap} {A : CT} {x : Fx} (T : Txt K mg base A x) : PySem.W.keepIn K (.ref x.f__law_one) = true := T.F__law_one.kp
theorem Txt.kp__law_others_right {K : PySem.W.Frag} {mg : Str → Option Value} {base : Heap} {A : CT} {x : Fx} (T : Txt K mg base A x) : PySem.W.keepIn K (.ref x.f__law_others_right) = true := T.F__law_others_right.kp
theorem Txt.kp__law_values {K : PySem.W.Frag} {mg : Str → Option Value} {base : Heap} {A : CT} {x : Fx} (T : Txt K mg base A x) : PySem.W.keepIn K (.ref x.f__law_values) = true := T.F__law_values.kp
theorem Txt.kp__law_right {K : PySem.W.Frag} {mg : Str → Option Value} {base : Heap} {A : CT} {x : Fx} (T : Txt K mg base A x) : PySem.W.keepIn K (.ref x.f__law_right) = true := T.F__law_right.kp
theorem Txt.kp_are_great {K : PySem.W.Frag} {mg : Str → Option Value} {base : Heap} {A : CT} {x : Fx} (T : Txt K mg base A x) : PySem.W.keepIn K (.ref x.f_are_great) = true := T.F_are_great.kp
theorem Txt.kp_in_order {K : PySem.W.Frag} {mg : Str → Option Value} {base : Heap} {A : CT} {x : Fx} (T : Txt K mg base A x) : PySem.W.keepIn K (.ref x.f_in_order) = true := T.F_in_order.kp
theorem Txt.kp_check_hooks {K : PySem.W.Frag} {mg : Str → Option Value} {base : Heap} {A : CT} {x : Fx} (T : Txt K mg base A x) : PySem.W.keepIn K (.ref x.f_check_hooks) = true := T.F_check_hooks.kp
theorem Txt.kp_are_small {K : PySem.W.Frag} {mg : Str → Option Value} {base : Heap} {A : CT} {x : Fx} (T : Txt K mg base A x) : PySem.W.keepIn K (.ref x.f_are_small) = true := T.F_are_small.kp
theorem Txt.kp_check_parts {K : PySem.W.Frag} {mg : Str → Option Value} {base : Heap} {A : CT} {x : Fx} (T : Txt K mg base A x) : PySem.W.keepIn K (.ref x.f_check_parts) = true := T.F_check_parts.kp
theorem Txt.kp_is_string {K : PySem.W.Frag} {mg : Str → Option Value} {base : Heap} {A : CT} {x : Fx} (T : Txt K mg base A x) : PySem.W.keepIn K (.ref x.f_is_string) = true := T.F_is_string.kp
theorem Txt.kp_check_strings {K : PySem.W.Frag} {mg : Str → Option Value} {base : Heap} {A : CT} {x : Fx} (T : Txt K mg base A x) : PySem.W.keepIn K (.ref x.f_check_strings) = true := T.F_check_strings.kp
theorem Txt.kp_is_integer {K : PySem.W.Frag} {mg : Str → Option Value} {base : Heap} {A : CT} {x : Fx} (T : Txt K mg base A x) : PySem.W.keepIn K (.ref x.f_is_integer) = true := T.F_is_integer.kp
theorem Txt.kp_is_number {K : PySem.W.Frag} {mg : Str → Option Value} {base : Heap} {A : CT} {x : Fx} (T : Txt K mg base A x) : PySem.W.keepIn K (.ref x.f_is_number) = true := T.F_is_number.kp
theorem Txt.kp_is_tie {K : PySem.W.Frag} {mg : Str → Option Value} {base : Heap} {A : CT} {x : Fx} (T : Txt K mg base A x) : PySem.W.keepIn K (.ref x.f_is_tie) = true := T.F_is_tie.kp
theorem Txt.kp_check_ties {K : PySem.W.Frag} {mg : Str → Option Value} {base : Heap} {A : CT} {x : Fx} (T : Txt K mg base A x) : PySem.W.keepIn K (.ref x.f_check_ties) = true := T.F_check_ties.kp
theorem Txt.kp_distances_of {K : PySem.W.Frag} {mg : Str → Option Value} {base : Heap} {A : CT} {x : Fx} (T : Txt K mg base A x) : PySem.W.keepIn K (.ref x.f_distances_of) = true := T.F_distances_of.kp
theorem Txt.kp_Puppet___init__ {K : PySem.W.Frag} {mg : Str → Option Value} {base : Heap} {A : CT} {x : Fx} (T : Txt K mg base A x) : PySem.W.keepIn K (.ref x.f_Puppet___init__) = true := T.F_Puppet___init__.kp
theorem Txt.kp_stick_man {K : PySem.W.Frag} {mg : Str → Option Value} {base : Heap} {A : CT} {x : Fx} (T : Txt K mg base A x) : PySem.W.keepIn K (.ref x.f_stick_man) = true := T.F_stick_man.kp
theorem Txt.kp_two_lines {K : PySem.W.Frag} {mg : Str → Option Value} {base : Heap} {A : CT} {x : Fx} (T : Txt K mg base A x) : PySem.W.keepIn K (.ref x.f_two_lines) = true := T.F_two_lines.kp
theorem Txt.kp_law {K : PySem.W.Frag} {mg : Str → Option Value} {base : Heap} {A : CT} {x : Fx} (T : Txt K mg base A x) : PySem.W.keepIn K (.ref x.f_law) = true := T.F_law.kp
end Tbs
/-- what is wanted of the law's own def -/
def OkLaw : Prop := ∀ [Tb] (P : Program) (w : World) (K : PySem.W.Frag) (mg : Str → Option Value) (base : Heap) (A : CT) (x : Fx), Txt K mg base A x → FnOk P w K mg base (L2.CX P w) 14 x.f_law x.d_law ["_law_cells"] (sp_law K)
/-! ### what the top has written, gathered -/
theorem all_mk (OL : OkLaw) {l : PySem.W.OpenLaw} {q : Program} {w : World} {K : PySem.W.Frag} {h : Heap} {mg : Str → Option Value} {fa : Addr} (X : K.In h) (G : h.Ns mainGlobals mg) (hfa : mg "law" = some (.ref fa))
    (tab : ∀ (x : Str) (c P : Addr), ((PyProof.Rows.recsOf q).any fun e => e.name == x) = true → PySem.W.tabIn K x = some (c, P) → PySem.W.CodeHd h c P ∧ h.get? P = some { cls := .none, data := .fields #[] })
    {C_Puppet : Addr}
    {f_Puppet___eq__ : Addr}
    {f__law_bag : Addr}
    {f__law_indexes : Addr}
    {f__law_classes : Addr}
    {f__law_is : Addr}
    {f__law_draw : Addr}
    {f__law_one : Addr}
    {f__law_others_right : Addr}
    {f__law_values : Addr}
    {f__law_right : Addr}
    {f_are_great : Addr}
    {f_in_order : Addr}
    {f_check_hooks : Addr}
    {f_are_small : Addr}
    {f_check_parts : Addr}
    {f_is_string : Addr}
    {f_check_strings : Addr}
    {f_is_integer : Addr}
    {f_is_number : Addr} {od_is_number an_is_number : Option Addr} {sl_is_number : Array (Option Value)} {oc_is_number kV_is_number dc_is_number pm_is_number cd_is_number ct_is_number : Value}
    {dt_is_number : Addr} {to_is_number : Value} {td_is_number : Option Addr} {tn_is_number : Nat} {ts_is_number : Array (Option Value)} {tv_is_number : Array Value}
    {f_is_tie : Addr}
    {f_check_ties : Addr}
    {f_distances_of : Addr}
    {f_Puppet___init__ : Addr}
    {f_stick_man : Addr}
    {f_two_lines : Addr}
    {f_law : Addr} {od_law an_law : Option Addr} {sl_law : Array (Option Value)} {oc_law kV_law dc_law pm_law cd_law ct_law : Value}
    {C_ShapeError : Addr}
    {C_InvalidNumber : Addr}
    {C_InvalidText : Addr}
    {C_InvalidForm : Addr}
    {C_InvalidName : Addr}
    {C_InvalidFacts : Addr}
    {C_InvalidParts : Addr}
    {C_InvalidTies : Addr}
    {C_InvalidHooks : Addr}
    {C_InvalidStrings : Addr}
    {C_InvalidHeights : Addr}
    {C_InvalidLengths : Addr}
    {C_InvalidMoves : Addr}
    {C_InvalidMoment : Addr}
    {C_InvalidLevel : Addr}
    {C_InvalidWish : Addr}
    {C_InvalidSights : Addr}
    {C_InvalidGuards : Addr}
    {C_InvalidLine : Addr}
    {C_NotFacts : Addr}
    {C_NotAPuppet : Addr}
    {C_NotAScript : Addr}
    {C_NotARun : Addr}
    {C_NotAWish : Addr}
    {C_QuestionError : Addr}
    {C_UnknownPart : Addr}
    {C_UnknownHook : Addr}
    {C_UnknownName : Addr}
    {C_NoWay : Addr}
    {C_OtherNames : Addr}
    {C_OtherParts : Addr}
    {C_Contradictory : Addr}
    {C_Never : Addr}
    {C_Busy : Addr}
    {C_NothingToUndo : Addr}
    {C_Refused : Addr}
    {C_SizeError : Addr}
    {C_TooMany : Addr}
    {osm : Obj}
    {tk_MOST_AMOUNT : Tok}
    {tk_MOST_DEPTH : Tok}
    {tk_MOST_FACTS : Tok}
    {tk_MOST_GUARDS : Tok}
    {tk_MOST_HAULS : Tok}
    {tk_MOST_HOOKS : Tok}
    {tk_MOST_MOVES : Tok}
    {tk_MOST_OVERS : Tok}
    {tk_MOST_PARTS : Tok}
    {tk_MOST_SIGHTS : Tok}
    {tk_MOST_STRINGS : Tok}
    {tk_MOST_TIES : Tok}
    {tk_MOST_WISHES : Tok}
    (aC_Puppet : PySem.W.nsIn K mainGlobals "Puppet" = some (some (.ref C_Puppet)))
    (a_Puppet___eq__ : PySem.W.findIn K (.ref C_Puppet) "__eq__" = some (some (.ref f_Puppet___eq__)))
    (i_Puppet___eq__ : PySem.W.isFn K (.ref f_Puppet___eq__) = true)
    (E_Puppet___eq__ : ∃ d, Fun K "__eq__" "Puppet.__eq__" st_Puppet___eq__ f_Puppet___eq__ d)
    (a__law_bag : PySem.W.nsIn K mainGlobals "_law_bag" = some (some (.ref f__law_bag)))
    (E__law_bag : ∃ d, Fun K "_law_bag" "_law_bag" st__law_bag f__law_bag d)
    (a__law_indexes : PySem.W.nsIn K mainGlobals "_law_indexes" = some (some (.ref f__law_indexes)))
    (E__law_indexes : ∃ d, Fun K "_law_indexes" "_law_indexes" st__law_indexes f__law_indexes d)
    (a__law_classes : PySem.W.nsIn K mainGlobals "_law_classes" = some (some (.ref f__law_classes)))
    (E__law_classes : ∃ d, Fun K "_law_classes" "_law_classes" st__law_classes f__law_classes d)
    (a__law_is : PySem.W.nsIn K mainGlobals "_law_is" = some (some (.ref f__law_is)))
    (E__law_is : ∃ d, Fun K "_law_is" "_law_is" st__law_is f__law_is d)
    (a__law_draw : PySem.W.nsIn K mainGlobals "_law_draw" = some (some (.ref f__law_draw)))
    (E__law_draw : ∃ d, Fun K "_law_draw" "_law_draw" st__law_draw f__law_draw d)
    (a__law_one : PySem.W.nsIn K mainGlobals "_law_one" = some (some (.ref f__law_one)))
    (E__law_one : ∃ d, Fun K "_law_one" "_law_one" st__law_one f__law_one d)
    (a__law_others_right : PySem.W.nsIn K mainGlobals "_law_others_right" = some (some (.ref f__law_others_right)))
    (E__law_others_right : ∃ d, Fun K "_law_others_right" "_law_others_right" st__law_others_right f__law_others_right d)
    (a__law_values : PySem.W.nsIn K mainGlobals "_law_values" = some (some (.ref f__law_values)))
    (E__law_values : ∃ d, Fun K "_law_values" "_law_values" st__law_values f__law_values d)
    (a__law_right : PySem.W.nsIn K mainGlobals "_law_right" = some (some (.ref f__law_right)))
    (E__law_right : ∃ d, Fun K "_law_right" "_law_right" st__law_right f__law_right d)
    (a_are_great : PySem.W.nsIn K mainGlobals "are_great" = some (some (.ref f_are_great)))
    (E_are_great : ∃ d, Fun K "are_great" "are_great" st_are_great f_are_great d)
    (a_in_order : PySem.W.nsIn K mainGlobals "in_order" = some (some (.ref f_in_order)))
    (E_in_order : ∃ d, Fun K "in_order" "in_order" st_in_order f_in_order d)
    (a_check_hooks : PySem.W.nsIn K mainGlobals "check_hooks" = some (some (.ref f_check_hooks)))
    (E_check_hooks : ∃ d, Fun K "check_hooks" "check_hooks" st_check_hooks f_check_hooks d)
    (a_are_small : PySem.W.nsIn K mainGlobals "are_small" = some (some (.ref f_are_small)))
    (E_are_small : ∃ d, Fun K "are_small" "are_small" st_are_small f_are_small d)
    (a_check_parts : PySem.W.nsIn K mainGlobals "check_parts" = some (some (.ref f_check_parts)))
    (E_check_parts : ∃ d, Fun K "check_parts" "check_parts" st_check_parts f_check_parts d)
    (a_is_string : PySem.W.nsIn K mainGlobals "is_string" = some (some (.ref f_is_string)))
    (E_is_string : ∃ d, Fun K "is_string" "is_string" st_is_string f_is_string d)
    (a_check_strings : PySem.W.nsIn K mainGlobals "check_strings" = some (some (.ref f_check_strings)))
    (E_check_strings : ∃ d, Fun K "check_strings" "check_strings" st_check_strings f_check_strings d)
    (a_is_integer : PySem.W.nsIn K mainGlobals "is_integer" = some (some (.ref f_is_integer)))
    (E_is_integer : ∃ d, Fun K "is_integer" "is_integer" st_is_integer f_is_integer d)
    (a_is_number : PySem.W.nsIn K mainGlobals "is_number" = some (some (.ref f_is_number)))
    (l_is_number : K.lookup f_is_number = some ⟨oc_is_number, od_is_number, .func (unop% fd is_number), sl_is_number⟩)
    (c_is_number : PySem.W.codeIn K cd_is_number "is_number" = true)
    (k_is_number : PySem.W.keepIn K (.ref f_is_number) = true)
    (t_is_number : K.lookup dt_is_number = some ⟨to_is_number, td_is_number, .seq tv_is_number tn_is_number, ts_is_number⟩)
    (u_is_number : Vals [.non] tv_is_number.toList)
    (a_is_tie : PySem.W.nsIn K mainGlobals "is_tie" = some (some (.ref f_is_tie)))
    (E_is_tie : ∃ d, Fun K "is_tie" "is_tie" st_is_tie f_is_tie d)
    (a_check_ties : PySem.W.nsIn K mainGlobals "check_ties" = some (some (.ref f_check_ties)))
    (E_check_ties : ∃ d, Fun K "check_ties" "check_ties" st_check_ties f_check_ties d)
    (a_distances_of : PySem.W.nsIn K mainGlobals "distances_of" = some (some (.ref f_distances_of)))
    (E_distances_of : ∃ d, Fun K "distances_of" "distances_of" st_distances_of f_distances_of d)
    (a_Puppet___init__ : PySem.W.findIn K (.ref C_Puppet) "__init__" = some (some (.ref f_Puppet___init__)))
    (i_Puppet___init__ : PySem.W.isFn K (.ref f_Puppet___init__) = true)
    (E_Puppet___init__ : ∃ d, Fun K "__init__" "Puppet.__init__" st_Puppet___init__ f_Puppet___init__ d)
    (a_stick_man : PySem.W.nsIn K mainGlobals "stick_man" = some (some (.ref f_stick_man)))
    (E_stick_man : ∃ d, Fun K "stick_man" "stick_man" st_stick_man f_stick_man d)
    (a_two_lines : PySem.W.nsIn K mainGlobals "two_lines" = some (some (.ref f_two_lines)))
    (E_two_lines : ∃ d, Fun K "two_lines" "two_lines" st_two_lines f_two_lines d)
    (a_law : PySem.W.nsIn K mainGlobals "law" = some (some (.ref f_law)))
    (l_law : K.lookup f_law = some ⟨oc_law, od_law, .func (unop% fd law), sl_law⟩)
    (c_law : PySem.W.codeIn K cd_law "law" = true)
    (k_law : PySem.W.keepIn K (.ref f_law) = true)
    (aC_ShapeError : PySem.W.nsIn K mainGlobals "ShapeError" = some (some (.ref C_ShapeError)))
    (aC_InvalidNumber : PySem.W.nsIn K mainGlobals "InvalidNumber" = some (some (.ref C_InvalidNumber)))
    (aC_InvalidText : PySem.W.nsIn K mainGlobals "InvalidText" = some (some (.ref C_InvalidText)))
    (aC_InvalidForm : PySem.W.nsIn K mainGlobals "InvalidForm" = some (some (.ref C_InvalidForm)))
    (aC_InvalidName : PySem.W.nsIn K mainGlobals "InvalidName" = some (some (.ref C_InvalidName)))
    (aC_InvalidFacts : PySem.W.nsIn K mainGlobals "InvalidFacts" = some (some (.ref C_InvalidFacts)))
    (aC_InvalidParts : PySem.W.nsIn K mainGlobals "InvalidParts" = some (some (.ref C_InvalidParts)))
    (aC_InvalidTies : PySem.W.nsIn K mainGlobals "InvalidTies" = some (some (.ref C_InvalidTies)))
    (aC_InvalidHooks : PySem.W.nsIn K mainGlobals "InvalidHooks" = some (some (.ref C_InvalidHooks)))
    (aC_InvalidStrings : PySem.W.nsIn K mainGlobals "InvalidStrings" = some (some (.ref C_InvalidStrings)))
    (aC_InvalidHeights : PySem.W.nsIn K mainGlobals "InvalidHeights" = some (some (.ref C_InvalidHeights)))
    (aC_InvalidLengths : PySem.W.nsIn K mainGlobals "InvalidLengths" = some (some (.ref C_InvalidLengths)))
    (aC_InvalidMoves : PySem.W.nsIn K mainGlobals "InvalidMoves" = some (some (.ref C_InvalidMoves)))
    (aC_InvalidMoment : PySem.W.nsIn K mainGlobals "InvalidMoment" = some (some (.ref C_InvalidMoment)))
    (aC_InvalidLevel : PySem.W.nsIn K mainGlobals "InvalidLevel" = some (some (.ref C_InvalidLevel)))
    (aC_InvalidWish : PySem.W.nsIn K mainGlobals "InvalidWish" = some (some (.ref C_InvalidWish)))
    (aC_InvalidSights : PySem.W.nsIn K mainGlobals "InvalidSights" = some (some (.ref C_InvalidSights)))
    (aC_InvalidGuards : PySem.W.nsIn K mainGlobals "InvalidGuards" = some (some (.ref C_InvalidGuards)))
    (aC_InvalidLine : PySem.W.nsIn K mainGlobals "InvalidLine" = some (some (.ref C_InvalidLine)))
    (aC_NotFacts : PySem.W.nsIn K mainGlobals "NotFacts" = some (some (.ref C_NotFacts)))
    (aC_NotAPuppet : PySem.W.nsIn K mainGlobals "NotAPuppet" = some (some (.ref C_NotAPuppet)))
    (aC_NotAScript : PySem.W.nsIn K mainGlobals "NotAScript" = some (some (.ref C_NotAScript)))
    (aC_NotARun : PySem.W.nsIn K mainGlobals "NotARun" = some (some (.ref C_NotARun)))
    (aC_NotAWish : PySem.W.nsIn K mainGlobals "NotAWish" = some (some (.ref C_NotAWish)))
    (aC_QuestionError : PySem.W.nsIn K mainGlobals "QuestionError" = some (some (.ref C_QuestionError)))
    (aC_UnknownPart : PySem.W.nsIn K mainGlobals "UnknownPart" = some (some (.ref C_UnknownPart)))
    (aC_UnknownHook : PySem.W.nsIn K mainGlobals "UnknownHook" = some (some (.ref C_UnknownHook)))
    (aC_UnknownName : PySem.W.nsIn K mainGlobals "UnknownName" = some (some (.ref C_UnknownName)))
    (aC_NoWay : PySem.W.nsIn K mainGlobals "NoWay" = some (some (.ref C_NoWay)))
    (aC_OtherNames : PySem.W.nsIn K mainGlobals "OtherNames" = some (some (.ref C_OtherNames)))
    (aC_OtherParts : PySem.W.nsIn K mainGlobals "OtherParts" = some (some (.ref C_OtherParts)))
    (aC_Contradictory : PySem.W.nsIn K mainGlobals "Contradictory" = some (some (.ref C_Contradictory)))
    (aC_Never : PySem.W.nsIn K mainGlobals "Never" = some (some (.ref C_Never)))
    (aC_Busy : PySem.W.nsIn K mainGlobals "Busy" = some (some (.ref C_Busy)))
    (aC_NothingToUndo : PySem.W.nsIn K mainGlobals "NothingToUndo" = some (some (.ref C_NothingToUndo)))
    (aC_Refused : PySem.W.nsIn K mainGlobals "Refused" = some (some (.ref C_Refused)))
    (aC_SizeError : PySem.W.nsIn K mainGlobals "SizeError" = some (some (.ref C_SizeError)))
    (aC_TooMany : PySem.W.nsIn K mainGlobals "TooMany" = some (some (.ref C_TooMany)))
    (E_InvalidNumber : ∃ fI, SL.XC K C_InvalidNumber fI "value")
    (xk_InvalidNumber : PySem.W.keepIn K (.ref C_InvalidNumber) = true)
    (E_InvalidText : ∃ fI, SL.XC K C_InvalidText fI "value")
    (xk_InvalidText : PySem.W.keepIn K (.ref C_InvalidText) = true)
    (E_InvalidForm : ∃ fI, SL.XC K C_InvalidForm fI "value")
    (xk_InvalidForm : PySem.W.keepIn K (.ref C_InvalidForm) = true)
    (E_InvalidName : ∃ fI, SL.XC K C_InvalidName fI "value")
    (xk_InvalidName : PySem.W.keepIn K (.ref C_InvalidName) = true)
    (E_InvalidFacts : ∃ fI, SL.XC K C_InvalidFacts fI "index")
    (xk_InvalidFacts : PySem.W.keepIn K (.ref C_InvalidFacts) = true)
    (E_InvalidParts : ∃ fI, SL.XC K C_InvalidParts fI "index")
    (xk_InvalidParts : PySem.W.keepIn K (.ref C_InvalidParts) = true)
    (E_InvalidTies : ∃ fI, SL.XC K C_InvalidTies fI "index")
    (xk_InvalidTies : PySem.W.keepIn K (.ref C_InvalidTies) = true)
    (E_InvalidHooks : ∃ fI, SL.XC K C_InvalidHooks fI "value")
    (xk_InvalidHooks : PySem.W.keepIn K (.ref C_InvalidHooks) = true)
    (E_InvalidStrings : ∃ fI, SL.XC K C_InvalidStrings fI "index")
    (xk_InvalidStrings : PySem.W.keepIn K (.ref C_InvalidStrings) = true)
    (E_InvalidHeights : ∃ fI, SL.XC K C_InvalidHeights fI "value")
    (xk_InvalidHeights : PySem.W.keepIn K (.ref C_InvalidHeights) = true)
    (E_InvalidLengths : ∃ fI, SL.XC K C_InvalidLengths fI "value")
    (xk_InvalidLengths : PySem.W.keepIn K (.ref C_InvalidLengths) = true)
    (E_InvalidMoves : ∃ fI, SL.XC K C_InvalidMoves fI "index")
    (xk_InvalidMoves : PySem.W.keepIn K (.ref C_InvalidMoves) = true)
    (E_InvalidMoment : ∃ fI, SL.XC K C_InvalidMoment fI "value")
    (xk_InvalidMoment : PySem.W.keepIn K (.ref C_InvalidMoment) = true)
    (E_InvalidLevel : ∃ fI, SL.XC K C_InvalidLevel fI "value")
    (xk_InvalidLevel : PySem.W.keepIn K (.ref C_InvalidLevel) = true)
    (E_InvalidWish : ∃ fI, SL.XC K C_InvalidWish fI "value")
    (xk_InvalidWish : PySem.W.keepIn K (.ref C_InvalidWish) = true)
    (E_InvalidSights : ∃ fI, SL.XC K C_InvalidSights fI "index")
    (xk_InvalidSights : PySem.W.keepIn K (.ref C_InvalidSights) = true)
    (E_InvalidGuards : ∃ fI, SL.XC K C_InvalidGuards fI "index")
    (xk_InvalidGuards : PySem.W.keepIn K (.ref C_InvalidGuards) = true)
    (E_InvalidLine : ∃ fI, SL.XC K C_InvalidLine fI "value")
    (xk_InvalidLine : PySem.W.keepIn K (.ref C_InvalidLine) = true)
    (E_NotFacts : ∃ fI, SL.XC K C_NotFacts fI "value")
    (xk_NotFacts : PySem.W.keepIn K (.ref C_NotFacts) = true)
    (E_NotAPuppet : ∃ fI, SL.XC K C_NotAPuppet fI "value")
    (xk_NotAPuppet : PySem.W.keepIn K (.ref C_NotAPuppet) = true)
    (E_NotAScript : ∃ fI, SL.XC K C_NotAScript fI "value")
    (xk_NotAScript : PySem.W.keepIn K (.ref C_NotAScript) = true)
    (E_NotARun : ∃ fI, SL.XC K C_NotARun fI "value")
    (xk_NotARun : PySem.W.keepIn K (.ref C_NotARun) = true)
    (E_NotAWish : ∃ fI, SL.XC K C_NotAWish fI "value")
    (xk_NotAWish : PySem.W.keepIn K (.ref C_NotAWish) = true)
    (E_UnknownPart : ∃ fI, SL.XC K C_UnknownPart fI "value")
    (xk_UnknownPart : PySem.W.keepIn K (.ref C_UnknownPart) = true)
    (E_UnknownHook : ∃ fI, SL.XC K C_UnknownHook fI "value")
    (xk_UnknownHook : PySem.W.keepIn K (.ref C_UnknownHook) = true)
    (E_UnknownName : ∃ fI, SL.XC K C_UnknownName fI "value")
    (xk_UnknownName : PySem.W.keepIn K (.ref C_UnknownName) = true)
    (E_NoWay : ∃ fI, SL.XC K C_NoWay fI "index")
    (xk_NoWay : PySem.W.keepIn K (.ref C_NoWay) = true)
    (E_OtherNames : ∃ fI, SL.XC K C_OtherNames fI "given")
    (xk_OtherNames : PySem.W.keepIn K (.ref C_OtherNames) = true)
    (E_OtherParts : ∃ fI, SL.XC K C_OtherParts fI "given")
    (xk_OtherParts : PySem.W.keepIn K (.ref C_OtherParts) = true)
    (E_Contradictory : ∃ fI, SL.XC K C_Contradictory fI "weights")
    (xk_Contradictory : PySem.W.keepIn K (.ref C_Contradictory) = true)
    (E_Never : PySem.W.excIn K C_Never [.type "LookupError", .type "Exception", .type "BaseException", .type "object"] "LookupError.__new__" = true)
    (xk_Never : PySem.W.keepIn K (.ref C_Never) = true)
    (E_Busy : PySem.W.excIn K C_Busy [.type "LookupError", .type "Exception", .type "BaseException", .type "object"] "LookupError.__new__" = true)
    (xk_Busy : PySem.W.keepIn K (.ref C_Busy) = true)
    (E_NothingToUndo : PySem.W.excIn K C_NothingToUndo [.type "LookupError", .type "Exception", .type "BaseException", .type "object"] "LookupError.__new__" = true)
    (xk_NothingToUndo : PySem.W.keepIn K (.ref C_NothingToUndo) = true)
    (E_Refused : ∃ fI, SL.XCb K C_Refused fI)
    (xk_Refused : PySem.W.keepIn K (.ref C_Refused) = true)
    (E_TooMany : ∃ fI, SL.XC K C_TooMany fI "limit")
    (xk_TooMany : PySem.W.keepIn K (.ref C_TooMany) = true)
    (XS_l : K.lookup sysModules = some osm)
    (XS_c : osm.cls = .type "dict")
    (XB_a : (xsL.all fun c => SL.xaB K (([C_Puppet, C_Puppet, C_Puppet, C_Puppet, C_Puppet, C_Puppet, C_Puppet, C_Puppet, C_Puppet, C_Puppet, C_Puppet, C_Puppet, C_Puppet, C_Puppet, C_Puppet, C_Puppet, C_Puppet, C_Puppet, C_Puppet, C_Puppet, C_ShapeError, C_InvalidNumber, C_InvalidText, C_InvalidForm, C_InvalidName, C_InvalidFacts, C_InvalidParts, C_InvalidTies, C_InvalidHooks, C_InvalidStrings, C_InvalidHeights, C_InvalidLengths, C_InvalidMoves, C_InvalidMoment, C_InvalidLevel, C_InvalidWish, C_InvalidSights, C_InvalidGuards, C_InvalidLine, C_NotFacts, C_NotAPuppet, C_NotAScript, C_NotARun, C_NotAWish, C_QuestionError, C_UnknownPart, C_UnknownHook, C_UnknownName, C_NoWay, C_OtherNames, C_OtherParts, C_Contradictory, C_Never, C_Busy, C_NothingToUndo, C_Refused, C_SizeError, C_TooMany] : List Addr).getD c C_Puppet)) = true)
    (XB_k : (xsL.all fun c => (ysL fun c => (([C_Puppet, C_Puppet, C_Puppet, C_Puppet, C_Puppet, C_Puppet, C_Puppet, C_Puppet, C_Puppet, C_Puppet, C_Puppet, C_Puppet, C_Puppet, C_Puppet, C_Puppet, C_Puppet, C_Puppet, C_Puppet, C_Puppet, C_Puppet, C_ShapeError, C_InvalidNumber, C_InvalidText, C_InvalidForm, C_InvalidName, C_InvalidFacts, C_InvalidParts, C_InvalidTies, C_InvalidHooks, C_InvalidStrings, C_InvalidHeights, C_InvalidLengths, C_InvalidMoves, C_InvalidMoment, C_InvalidLevel, C_InvalidWish, C_InvalidSights, C_InvalidGuards, C_InvalidLine, C_NotFacts, C_NotAPuppet, C_NotAScript, C_NotARun, C_NotAWish, C_QuestionError, C_UnknownPart, C_UnknownHook, C_UnknownName, C_NoWay, C_OtherNames, C_OtherParts, C_Contradictory, C_Never, C_Busy, C_NothingToUndo, C_Refused, C_SizeError, C_TooMany] : List Addr).getD c C_Puppet)).all fun y => PySem.W.kitOne K (.ref (([C_Puppet, C_Puppet, C_Puppet, C_Puppet, C_Puppet, C_Puppet, C_Puppet, C_Puppet, C_Puppet, C_Puppet, C_Puppet, C_Puppet, C_Puppet, C_Puppet, C_Puppet, C_Puppet, C_Puppet, C_Puppet, C_Puppet, C_Puppet, C_ShapeError, C_InvalidNumber, C_InvalidText, C_InvalidForm, C_InvalidName, C_InvalidFacts, C_InvalidParts, C_InvalidTies, C_InvalidHooks, C_InvalidStrings, C_InvalidHeights, C_InvalidLengths, C_InvalidMoves, C_InvalidMoment, C_InvalidLevel, C_InvalidWish, C_InvalidSights, C_InvalidGuards, C_InvalidLine, C_NotFacts, C_NotAPuppet, C_NotAScript, C_NotARun, C_NotAWish, C_QuestionError, C_UnknownPart, C_UnknownHook, C_UnknownName, C_NoWay, C_OtherNames, C_OtherParts, C_Contradictory, C_Never, C_Busy, C_NothingToUndo, C_Refused, C_SizeError, C_TooMany] : List Addr).getD c C_Puppet)) y.1 == some (y.2.contains c)) = true)
    (XB_given : (xt_given.all fun p => PySem.W.findIn K (.ref ((fun c => (([C_Puppet, C_Puppet, C_Puppet, C_Puppet, C_Puppet, C_Puppet, C_Puppet, C_Puppet, C_Puppet, C_Puppet, C_Puppet, C_Puppet, C_Puppet, C_Puppet, C_Puppet, C_Puppet, C_Puppet, C_Puppet, C_Puppet, C_Puppet, C_ShapeError, C_InvalidNumber, C_InvalidText, C_InvalidForm, C_InvalidName, C_InvalidFacts, C_InvalidParts, C_InvalidTies, C_InvalidHooks, C_InvalidStrings, C_InvalidHeights, C_InvalidLengths, C_InvalidMoves, C_InvalidMoment, C_InvalidLevel, C_InvalidWish, C_InvalidSights, C_InvalidGuards, C_InvalidLine, C_NotFacts, C_NotAPuppet, C_NotAScript, C_NotARun, C_NotAWish, C_QuestionError, C_UnknownPart, C_UnknownHook, C_UnknownName, C_NoWay, C_OtherNames, C_OtherParts, C_Contradictory, C_Never, C_Busy, C_NothingToUndo, C_Refused, C_SizeError, C_TooMany] : List Addr).getD c C_Puppet)) p.1)) "given" == some none) = true)
    (XB_index : (xt_index.all fun p => PySem.W.findIn K (.ref ((fun c => (([C_Puppet, C_Puppet, C_Puppet, C_Puppet, C_Puppet, C_Puppet, C_Puppet, C_Puppet, C_Puppet, C_Puppet, C_Puppet, C_Puppet, C_Puppet, C_Puppet, C_Puppet, C_Puppet, C_Puppet, C_Puppet, C_Puppet, C_Puppet, C_ShapeError, C_InvalidNumber, C_InvalidText, C_InvalidForm, C_InvalidName, C_InvalidFacts, C_InvalidParts, C_InvalidTies, C_InvalidHooks, C_InvalidStrings, C_InvalidHeights, C_InvalidLengths, C_InvalidMoves, C_InvalidMoment, C_InvalidLevel, C_InvalidWish, C_InvalidSights, C_InvalidGuards, C_InvalidLine, C_NotFacts, C_NotAPuppet, C_NotAScript, C_NotARun, C_NotAWish, C_QuestionError, C_UnknownPart, C_UnknownHook, C_UnknownName, C_NoWay, C_OtherNames, C_OtherParts, C_Contradictory, C_Never, C_Busy, C_NothingToUndo, C_Refused, C_SizeError, C_TooMany] : List Addr).getD c C_Puppet)) p.1)) "index" == some none) = true)
    (XB_limit : (xt_limit.all fun p => PySem.W.findIn K (.ref ((fun c => (([C_Puppet, C_Puppet, C_Puppet, C_Puppet, C_Puppet, C_Puppet, C_Puppet, C_Puppet, C_Puppet, C_Puppet, C_Puppet, C_Puppet, C_Puppet, C_Puppet, C_Puppet, C_Puppet, C_Puppet, C_Puppet, C_Puppet, C_Puppet, C_ShapeError, C_InvalidNumber, C_InvalidText, C_InvalidForm, C_InvalidName, C_InvalidFacts, C_InvalidParts, C_InvalidTies, C_InvalidHooks, C_InvalidStrings, C_InvalidHeights, C_InvalidLengths, C_InvalidMoves, C_InvalidMoment, C_InvalidLevel, C_InvalidWish, C_InvalidSights, C_InvalidGuards, C_InvalidLine, C_NotFacts, C_NotAPuppet, C_NotAScript, C_NotARun, C_NotAWish, C_QuestionError, C_UnknownPart, C_UnknownHook, C_UnknownName, C_NoWay, C_OtherNames, C_OtherParts, C_Contradictory, C_Never, C_Busy, C_NothingToUndo, C_Refused, C_SizeError, C_TooMany] : List Addr).getD c C_Puppet)) p.1)) "limit" == some none) = true)
    (XB_move : (xt_move.all fun p => PySem.W.findIn K (.ref ((fun c => (([C_Puppet, C_Puppet, C_Puppet, C_Puppet, C_Puppet, C_Puppet, C_Puppet, C_Puppet, C_Puppet, C_Puppet, C_Puppet, C_Puppet, C_Puppet, C_Puppet, C_Puppet, C_Puppet, C_Puppet, C_Puppet, C_Puppet, C_Puppet, C_ShapeError, C_InvalidNumber, C_InvalidText, C_InvalidForm, C_InvalidName, C_InvalidFacts, C_InvalidParts, C_InvalidTies, C_InvalidHooks, C_InvalidStrings, C_InvalidHeights, C_InvalidLengths, C_InvalidMoves, C_InvalidMoment, C_InvalidLevel, C_InvalidWish, C_InvalidSights, C_InvalidGuards, C_InvalidLine, C_NotFacts, C_NotAPuppet, C_NotAScript, C_NotARun, C_NotAWish, C_QuestionError, C_UnknownPart, C_UnknownHook, C_UnknownName, C_NoWay, C_OtherNames, C_OtherParts, C_Contradictory, C_Never, C_Busy, C_NothingToUndo, C_Refused, C_SizeError, C_TooMany] : List Addr).getD c C_Puppet)) p.1)) "move" == some none) = true)
    (XB_shown : (xt_shown.all fun p => PySem.W.findIn K (.ref ((fun c => (([C_Puppet, C_Puppet, C_Puppet, C_Puppet, C_Puppet, C_Puppet, C_Puppet, C_Puppet, C_Puppet, C_Puppet, C_Puppet, C_Puppet, C_Puppet, C_Puppet, C_Puppet, C_Puppet, C_Puppet, C_Puppet, C_Puppet, C_Puppet, C_ShapeError, C_InvalidNumber, C_InvalidText, C_InvalidForm, C_InvalidName, C_InvalidFacts, C_InvalidParts, C_InvalidTies, C_InvalidHooks, C_InvalidStrings, C_InvalidHeights, C_InvalidLengths, C_InvalidMoves, C_InvalidMoment, C_InvalidLevel, C_InvalidWish, C_InvalidSights, C_InvalidGuards, C_InvalidLine, C_NotFacts, C_NotAPuppet, C_NotAScript, C_NotARun, C_NotAWish, C_QuestionError, C_UnknownPart, C_UnknownHook, C_UnknownName, C_NoWay, C_OtherNames, C_OtherParts, C_Contradictory, C_Never, C_Busy, C_NothingToUndo, C_Refused, C_SizeError, C_TooMany] : List Addr).getD c C_Puppet)) p.1)) "shown" == some none) = true)
    (XB_value : (xt_value.all fun p => PySem.W.findIn K (.ref ((fun c => (([C_Puppet, C_Puppet, C_Puppet, C_Puppet, C_Puppet, C_Puppet, C_Puppet, C_Puppet, C_Puppet, C_Puppet, C_Puppet, C_Puppet, C_Puppet, C_Puppet, C_Puppet, C_Puppet, C_Puppet, C_Puppet, C_Puppet, C_Puppet, C_ShapeError, C_InvalidNumber, C_InvalidText, C_InvalidForm, C_InvalidName, C_InvalidFacts, C_InvalidParts, C_InvalidTies, C_InvalidHooks, C_InvalidStrings, C_InvalidHeights, C_InvalidLengths, C_InvalidMoves, C_InvalidMoment, C_InvalidLevel, C_InvalidWish, C_InvalidSights, C_InvalidGuards, C_InvalidLine, C_NotFacts, C_NotAPuppet, C_NotAScript, C_NotARun, C_NotAWish, C_QuestionError, C_UnknownPart, C_UnknownHook, C_UnknownName, C_NoWay, C_OtherNames, C_OtherParts, C_Contradictory, C_Never, C_Busy, C_NothingToUndo, C_Refused, C_SizeError, C_TooMany] : List Addr).getD c C_Puppet)) p.1)) "value" == some none) = true)
    (XB_weights : (xt_weights.all fun p => PySem.W.findIn K (.ref ((fun c => (([C_Puppet, C_Puppet, C_Puppet, C_Puppet, C_Puppet, C_Puppet, C_Puppet, C_Puppet, C_Puppet, C_Puppet, C_Puppet, C_Puppet, C_Puppet, C_Puppet, C_Puppet, C_Puppet, C_Puppet, C_Puppet, C_Puppet, C_Puppet, C_ShapeError, C_InvalidNumber, C_InvalidText, C_InvalidForm, C_InvalidName, C_InvalidFacts, C_InvalidParts, C_InvalidTies, C_InvalidHooks, C_InvalidStrings, C_InvalidHeights, C_InvalidLengths, C_InvalidMoves, C_InvalidMoment, C_InvalidLevel, C_InvalidWish, C_InvalidSights, C_InvalidGuards, C_InvalidLine, C_NotFacts, C_NotAPuppet, C_NotAScript, C_NotARun, C_NotAWish, C_QuestionError, C_UnknownPart, C_UnknownHook, C_UnknownName, C_NoWay, C_OtherNames, C_OtherParts, C_Contradictory, C_Never, C_Busy, C_NothingToUndo, C_Refused, C_SizeError, C_TooMany] : List Addr).getD c C_Puppet)) p.1)) "weights" == some none) = true)
    (z_ArithmeticError : PySem.W.nsIn K mainGlobals "ArithmeticError" = some none)
    (z_LookupError : PySem.W.nsIn K mainGlobals "LookupError" = some none)
    (z_ValueError : PySem.W.nsIn K mainGlobals "ValueError" = some none)
    (z_abs : PySem.W.nsIn K mainGlobals "abs" = some none)
    (z_all : PySem.W.nsIn K mainGlobals "all" = some none)
    (z_bool : PySem.W.nsIn K mainGlobals "bool" = some none)
    (z_enumerate : PySem.W.nsIn K mainGlobals "enumerate" = some none)
    (z_int : PySem.W.nsIn K mainGlobals "int" = some none)
    (z_isinstance : PySem.W.nsIn K mainGlobals "isinstance" = some none)
    (z_len : PySem.W.nsIn K mainGlobals "len" = some none)
    (z_max : PySem.W.nsIn K mainGlobals "max" = some none)
    (z_min : PySem.W.nsIn K mainGlobals "min" = some none)
    (z_range : PySem.W.nsIn K mainGlobals "range" = some none)
    (z_repr : PySem.W.nsIn K mainGlobals "repr" = some none)
    (z_str : PySem.W.nsIn K mainGlobals "str" = some none)
    (z_tuple : PySem.W.nsIn K mainGlobals "tuple" = some none)
    (kc_MOST_AMOUNT : PySem.W.nsIn K mainGlobals "MOST_AMOUNT" = some (some (.int 1000000 tk_MOST_AMOUNT)))
    (kc_MOST_DEPTH : PySem.W.nsIn K mainGlobals "MOST_DEPTH" = some (some (.int 4 tk_MOST_DEPTH)))
    (kc_MOST_FACTS : PySem.W.nsIn K mainGlobals "MOST_FACTS" = some (some (.int 8 tk_MOST_FACTS)))
    (kc_MOST_GUARDS : PySem.W.nsIn K mainGlobals "MOST_GUARDS" = some (some (.int 4 tk_MOST_GUARDS)))
    (kc_MOST_HAULS : PySem.W.nsIn K mainGlobals "MOST_HAULS" = some (some (.int 3 tk_MOST_HAULS)))
    (kc_MOST_HOOKS : PySem.W.nsIn K mainGlobals "MOST_HOOKS" = some (some (.int 4 tk_MOST_HOOKS)))
    (kc_MOST_MOVES : PySem.W.nsIn K mainGlobals "MOST_MOVES" = some (some (.int 6 tk_MOST_MOVES)))
    (kc_MOST_OVERS : PySem.W.nsIn K mainGlobals "MOST_OVERS" = some (some (.int 8 tk_MOST_OVERS)))
    (kc_MOST_PARTS : PySem.W.nsIn K mainGlobals "MOST_PARTS" = some (some (.int 6 tk_MOST_PARTS)))
    (kc_MOST_SIGHTS : PySem.W.nsIn K mainGlobals "MOST_SIGHTS" = some (some (.int 6 tk_MOST_SIGHTS)))
    (kc_MOST_STRINGS : PySem.W.nsIn K mainGlobals "MOST_STRINGS" = some (some (.int 6 tk_MOST_STRINGS)))
    (kc_MOST_TIES : PySem.W.nsIn K mainGlobals "MOST_TIES" = some (some (.int 10 tk_MOST_TIES)))
    (kc_MOST_WISHES : PySem.W.nsIn K mainGlobals "MOST_WISHES" = some (some (.int 6 tk_MOST_WISHES)))
    (pg_Puppet : PySem.W.plainGet K C_Puppet Str.empty = true)
    (hd_Puppet : PySem.W.hasDictIn K C_Puppet = true)
    (po_Puppet : PySem.W.plainOver K C_Puppet = true)
    (sa_Puppet : PySem.W.findIn K (.ref C_Puppet) "__setattr__" = some (some (.builtin "object.__setattr__")))
    (mk_Puppet : PySem.W.makesIn K C_Puppet = true)
    (kc_Puppet : PySem.W.keepIn K (.ref C_Puppet) = true)
    (sf_Puppet : PySem.W.selfFirst K C_Puppet = true)
    (si_Puppet : PySem.W.subIn K (.type "int") (.ref C_Puppet) = some false)
    (sj_Puppet : PySem.W.subIn K (.ref C_Puppet) (.type "int") = some false)
    (ha_Puppet : PySem.W.findIn K (.ref C_Puppet) "__class__" = some (some (.builtin "object.__class__")))
    (hm_Puppet : PySem.W.mroIn K C_Puppet (.type "object") = some true)
    (kb_Puppet_int : PySem.W.kitOne K (.ref C_Puppet) (.type "int") = some false)
    (kb_Puppet_bool : PySem.W.kitOne K (.ref C_Puppet) (.type "bool") = some false)
    (kb_Puppet_str : PySem.W.kitOne K (.ref C_Puppet) (.type "str") = some false)
    (kb_Puppet_tuple : PySem.W.kitOne K (.ref C_Puppet) (.type "tuple") = some false)
    (kb_Puppet_list : PySem.W.kitOne K (.ref C_Puppet) (.type "list") = some false)
    (kb_Puppet_dict : PySem.W.kitOne K (.ref C_Puppet) (.type "dict") = some false)
    (kt_Puppet_NoneType : PySem.W.kitOne K (.type "NoneType") (.ref C_Puppet) = some false)
    (nf_Puppet_NoneType : PySem.W.notFirst K C_Puppet (.type "NoneType") = true)
    (kt_Puppet_bool : PySem.W.kitOne K (.type "bool") (.ref C_Puppet) = some false)
    (nf_Puppet_bool : PySem.W.notFirst K C_Puppet (.type "bool") = true)
    (kt_Puppet_int : PySem.W.kitOne K (.type "int") (.ref C_Puppet) = some false)
    (nf_Puppet_int : PySem.W.notFirst K C_Puppet (.type "int") = true)
    (kt_Puppet_str : PySem.W.kitOne K (.type "str") (.ref C_Puppet) = some false)
    (nf_Puppet_str : PySem.W.notFirst K C_Puppet (.type "str") = true)
    (kt_Puppet_list : PySem.W.kitOne K (.type "list") (.ref C_Puppet) = some false)
    (nf_Puppet_list : PySem.W.notFirst K C_Puppet (.type "list") = true)
    (kt_Puppet_tuple : PySem.W.kitOne K (.type "tuple") (.ref C_Puppet) = some false)
    (nf_Puppet_tuple : PySem.W.notFirst K C_Puppet (.type "tuple") = true)
    (kt_Puppet_dict : PySem.W.kitOne K (.type "dict") (.ref C_Puppet) = some false)
    (nf_Puppet_dict : PySem.W.notFirst K C_Puppet (.type "dict") = true)
    (nn_Puppet_Puppet : PySem.W.notFirst K C_Puppet (.ref C_Puppet) = true)
    (hn : PySem.W.specialIn K (.builtin "object.__class__") "__get__" = some (some (.builtin "getset_descriptor.__get__")))
    (ht : PySem.W.takesIn K (.builtin "object.__class__") = some true)
    (na_Puppet_hooks : PySem.W.findIn K (.ref C_Puppet) "hooks" = some none)
    (na_Puppet_names : PySem.W.findIn K (.ref C_Puppet) "names" = some none)
    (na_Puppet_parts : PySem.W.findIn K (.ref C_Puppet) "parts" = some none)
    (na_Puppet_strings : PySem.W.findIn K (.ref C_Puppet) "strings" = some none)
    (na_Puppet_ties : PySem.W.findIn K (.ref C_Puppet) "ties" = some none)
    (na_Puppet_ways : PySem.W.findIn K (.ref C_Puppet) "ways" = some none)
    (ne_Puppet : PySem.W.findIn K (.ref C_Puppet) "__ne__" = some (some (.builtin "object.__ne__")))
    (ob_Puppet : PySem.W.subIn K (.ref C_Puppet) (.type "object") = some true) :
    SL.LawAtT l w K (L2.CX l.prog w) 14 63 "_law_cells" mg fa h := by
  letI : Tb := { T := [] }
  have e := hfa.symm.trans (PySem.W.mg_of X G a_law)
  cases e
  obtain ⟨d_Puppet___eq__, F_Puppet___eq__⟩ := E_Puppet___eq__
  have b_Puppet___eq__ := F_Puppet___eq__.binds (ps := ["self", "other"]) fun _ _ _ _ _ _ us hl => match us, hl with | [_, _], _ => rfl
  obtain ⟨d__law_bag, F__law_bag⟩ := E__law_bag
  have b__law_bag := F__law_bag.binds (ps := ["_law_cells", "_law_k"]) fun _ _ _ _ _ _ us hl => match us, hl with | [_, _], _ => rfl
  obtain ⟨d__law_indexes, F__law_indexes⟩ := E__law_indexes
  have b__law_indexes := F__law_indexes.binds (ps := ["_law_thing"]) fun _ _ _ _ _ _ us hl => match us, hl with | [_], _ => rfl
  obtain ⟨d__law_classes, F__law_classes⟩ := E__law_classes
  have b__law_classes := F__law_classes.binds (ps := ["_law_e"]) fun _ _ _ _ _ _ us hl => match us, hl with | [_], _ => rfl
  obtain ⟨d__law_is, F__law_is⟩ := E__law_is
  have b__law_is := F__law_is.binds (ps := ["_law_e", "_law_at"]) fun _ _ _ _ _ _ us hl => match us, hl with | [_, _], _ => rfl
  obtain ⟨d__law_draw, F__law_draw⟩ := E__law_draw
  have b__law_draw := F__law_draw.binds (ps := ["_law_bag_here", "_law_wide"]) fun _ _ _ _ _ _ us hl => match us, hl with | [_, _], _ => rfl
  obtain ⟨d__law_one, F__law_one⟩ := E__law_one
  have b__law_one := F__law_one.binds (ps := ["_law_bag_here", "_law_some"]) fun _ _ _ _ _ _ us hl => match us, hl with | [_, _], _ => rfl
  obtain ⟨d__law_others_right, F__law_others_right⟩ := E__law_others_right
  have b__law_others_right := F__law_others_right.binds (ps := ["_law_thing", "_law_mate"]) fun _ _ _ _ _ _ us hl => match us, hl with | [_, _], _ => rfl
  obtain ⟨d__law_values, F__law_values⟩ := E__law_values
  have b__law_values := F__law_values.binds (ps := ["_law_thing"]) fun _ _ _ _ _ _ us hl => match us, hl with | [_], _ => rfl
  obtain ⟨d__law_right, F__law_right⟩ := E__law_right
  have b__law_right := F__law_right.binds (ps := ["_law_bag_here"]) fun _ _ _ _ _ _ us hl => match us, hl with | [_], _ => rfl
  obtain ⟨d_are_great, F_are_great⟩ := E_are_great
  have b_are_great := F_are_great.binds (ps := ["value", "least", "most"]) fun _ _ _ _ _ _ us hl => match us, hl with | [_, _, _], _ => rfl
  obtain ⟨d_in_order, F_in_order⟩ := E_in_order
  have b_in_order := F_in_order.binds (ps := ["text"]) fun _ _ _ _ _ _ us hl => match us, hl with | [_], _ => rfl
  obtain ⟨d_check_hooks, F_check_hooks⟩ := E_check_hooks
  have b_check_hooks := F_check_hooks.binds (ps := ["hooks"]) fun _ _ _ _ _ _ us hl => match us, hl with | [_], _ => rfl
  obtain ⟨d_are_small, F_are_small⟩ := E_are_small
  have b_are_small := F_are_small.binds (ps := ["value", "least", "most"]) fun _ _ _ _ _ _ us hl => match us, hl with | [_, _, _], _ => rfl
  obtain ⟨d_check_parts, F_check_parts⟩ := E_check_parts
  have b_check_parts := F_check_parts.binds (ps := ["parts"]) fun _ _ _ _ _ _ us hl => match us, hl with | [_], _ => rfl
  obtain ⟨d_is_string, F_is_string⟩ := E_is_string
  have b_is_string := F_is_string.binds (ps := ["parts", "hooks", "before", "value"]) fun _ _ _ _ _ _ us hl => match us, hl with | [_, _, _, _], _ => rfl
  obtain ⟨d_check_strings, F_check_strings⟩ := E_check_strings
  have b_check_strings := F_check_strings.binds (ps := ["parts", "hooks", "strings"]) fun _ _ _ _ _ _ us hl => match us, hl with | [_, _, _], _ => rfl
  obtain ⟨d_is_integer, F_is_integer⟩ := E_is_integer
  have b_is_integer := F_is_integer.binds (ps := ["value"]) fun _ _ _ _ _ _ us hl => match us, hl with | [_], _ => rfl
  have F_is_number : FunD K "is_number" "is_number" (defArgs st_is_number) (defBody st_is_number) (defScope st_is_number) [.non] [] f_is_number (unop% fd is_number) := ⟨⟨oc_is_number, od_is_number, _, kV_is_number, dc_is_number, pm_is_number, an_is_number, cd_is_number, ct_is_number, sl_is_number, rfl, l_is_number, c_is_number, .inr ⟨by simp, dt_is_number, _, tv_is_number.toList, tn_is_number, rfl, t_is_number, rfl, u_is_number⟩, .inl rfl⟩, k_is_number⟩
  have b_is_number : Binds K (unop% fd is_number) ["value", "most"] [] := FunD_all F_is_number (by simp) fun T kV doc pm an cdv ct us its l1 l2 => match us, its, l1, l2 with | [_, _], [_], _, _ => ⟨_, rfl, rfl⟩
  obtain ⟨d_is_tie, F_is_tie⟩ := E_is_tie
  have b_is_tie := F_is_tie.binds (ps := ["parts", "tied", "value"]) fun _ _ _ _ _ _ us hl => match us, hl with | [_, _, _], _ => rfl
  obtain ⟨d_check_ties, F_check_ties⟩ := E_check_ties
  have b_check_ties := F_check_ties.binds (ps := ["parts", "ties"]) fun _ _ _ _ _ _ us hl => match us, hl with | [_, _], _ => rfl
  obtain ⟨d_distances_of, F_distances_of⟩ := E_distances_of
  have b_distances_of := F_distances_of.binds (ps := ["parts", "ties"]) fun _ _ _ _ _ _ us hl => match us, hl with | [_, _], _ => rfl
  obtain ⟨d_Puppet___init__, F_Puppet___init__⟩ := E_Puppet___init__
  have b_Puppet___init__ := F_Puppet___init__.binds (ps := ["self", "parts", "ties", "hooks", "strings"]) fun _ _ _ _ _ _ us hl => match us, hl with | [_, _, _, _, _], _ => rfl
  obtain ⟨d_stick_man, F_stick_man⟩ := E_stick_man
  have b_stick_man := F_stick_man.binds (ps := []) fun _ _ _ _ _ _ us hl => match us, hl with | [], _ => rfl
  obtain ⟨d_two_lines, F_two_lines⟩ := E_two_lines
  have b_two_lines := F_two_lines.binds (ps := []) fun _ _ _ _ _ _ us hl => match us, hl with | [], _ => rfl
  have F_law := fun_mk (st := st_law) l_law c_law k_law
  have b_law := F_law.binds (ps := ["_law_cells"]) fun _ _ _ _ _ _ us hl => match us, hl with | [_], _ => rfl
  let A : CT := { ad := fun c => [C_Puppet, C_Puppet, C_Puppet, C_Puppet, C_Puppet, C_Puppet, C_Puppet, C_Puppet, C_Puppet, C_Puppet, C_Puppet, C_Puppet, C_Puppet, C_Puppet, C_Puppet, C_Puppet, C_Puppet, C_Puppet, C_Puppet, C_Puppet, C_ShapeError, C_InvalidNumber, C_InvalidText, C_InvalidForm, C_InvalidName, C_InvalidFacts, C_InvalidParts, C_InvalidTies, C_InvalidHooks, C_InvalidStrings, C_InvalidHeights, C_InvalidLengths, C_InvalidMoves, C_InvalidMoment, C_InvalidLevel, C_InvalidWish, C_InvalidSights, C_InvalidGuards, C_InvalidLine, C_NotFacts, C_NotAPuppet, C_NotAScript, C_NotARun, C_NotAWish, C_QuestionError, C_UnknownPart, C_UnknownHook, C_UnknownName, C_NoWay, C_OtherNames, C_OtherParts, C_Contradictory, C_Never, C_Busy, C_NothingToUndo, C_Refused, C_SizeError, C_TooMany].getD c C_Puppet, nms := nmsOf, cs := [2], xs := [21, 22, 23, 24, 25, 26, 27, 28, 29, 30, 31, 32, 33, 34, 35, 36, 37, 38, 39, 40, 41, 42, 43, 45, 46, 47, 48, 49, 50, 51, 52, 53, 54, 55, 57] }
  let x : Fx := { f_Puppet___eq__ := f_Puppet___eq__, d_Puppet___eq__ := d_Puppet___eq__, f__law_bag := f__law_bag, d__law_bag := d__law_bag, f__law_indexes := f__law_indexes, d__law_indexes := d__law_indexes, f__law_classes := f__law_classes, d__law_classes := d__law_classes, f__law_is := f__law_is, d__law_is := d__law_is, f__law_draw := f__law_draw, d__law_draw := d__law_draw, f__law_one := f__law_one, d__law_one := d__law_one, f__law_others_right := f__law_others_right, d__law_others_right := d__law_others_right, f__law_values := f__law_values, d__law_values := d__law_values, f__law_right := f__law_right, d__law_right := d__law_right, f_are_great := f_are_great, d_are_great := d_are_great, f_in_order := f_in_order, d_in_order := d_in_order, f_check_hooks := f_check_hooks, d_check_hooks := d_check_hooks, f_are_small := f_are_small, d_are_small := d_are_small, f_check_parts := f_check_parts, d_check_parts := d_check_parts, f_is_string := f_is_string, d_is_string := d_is_string, f_check_strings := f_check_strings, d_check_strings := d_check_strings, f_is_integer := f_is_integer, d_is_integer := d_is_integer, f_is_number := f_is_number, d_is_number := (unop% fd is_number), f_is_tie := f_is_tie, d_is_tie := d_is_tie, f_check_ties := f_check_ties, d_check_ties := d_check_ties, f_distances_of := f_distances_of, d_distances_of := d_distances_of, f_Puppet___init__ := f_Puppet___init__, d_Puppet___init__ := d_Puppet___init__, f_stick_man := f_stick_man, d_stick_man := d_stick_man, f_two_lines := f_two_lines, d_two_lines := d_two_lines, f_law := fa, d_law := (unop% fd law) }
  have cf_Puppet : CF K C_Puppet := ⟨⟨pg_Puppet, hd_Puppet, po_Puppet, sa_Puppet⟩, ha_Puppet, hn, ht, hm_Puppet,
    fun T hT => by simp only [List.mem_cons, List.not_mem_nil, or_false] at hT; rcases hT with rfl | rfl | rfl | rfl | rfl | rfl <;> assumption,
    fun T hT => by simp only [List.mem_cons, List.not_mem_nil, or_false] at hT; rcases hT with rfl | rfl | rfl | rfl | rfl | rfl | rfl <;> assumption,
    fun T hT => by simp only [List.mem_cons, List.not_mem_nil, or_false] at hT; rcases hT with rfl | rfl | rfl | rfl | rfl | rfl | rfl <;> assumption⟩
  have kd : KD K A := by
    refine ⟨fun c hc => ?_, fun c hc c' hc' => ?_, fun c hc c' hc' => ?_⟩
    · simp only [A, List.mem_cons, List.not_mem_nil, or_false] at hc; rcases hc with rfl
      · exact cf_Puppet
    · simp only [A, List.mem_cons, List.not_mem_nil, or_false] at hc hc'; rcases hc with rfl <;> rcases hc' with rfl
      · show PySem.W.kitOne K (.ref C_Puppet) (.ref C_Puppet) = some true; unfold PySem.W.kitOne; simp
    · simp only [A, List.mem_cons, List.not_mem_nil, or_false] at hc hc'; rcases hc with rfl <;> rcases hc' with rfl
      · exact nn_Puppet_Puppet
  refine ⟨(unop% fd law), [], sp_law K, (by simp), (by simp), (by simp), fun s v => .of_eq rfl, fun H a ns hl hH hS => ⟨a, ns, rfl, hS, hl, SL.tabs_nil (by intro p hp; cases hp), fun _ => rfl⟩, fun base _ _ tbs => ?_⟩
  have T : Txt K mg base A x := { b0 := fun _ => rfl, kd := kd, in_Puppet := by simp [A], nl_Puppet := (by decide : (nmsOf 2).length ≤ 900), F_Puppet___eq__ := F_Puppet___eq__, b_Puppet___eq__ := b_Puppet___eq__, F__law_bag := F__law_bag, b__law_bag := b__law_bag, F__law_indexes := F__law_indexes, b__law_indexes := b__law_indexes, F__law_classes := F__law_classes, b__law_classes := b__law_classes, F__law_is := F__law_is, b__law_is := b__law_is, F__law_draw := F__law_draw, b__law_draw := b__law_draw, F__law_one := F__law_one, b__law_one := b__law_one, F__law_others_right := F__law_others_right, b__law_others_right := b__law_others_right, F__law_values := F__law_values, b__law_values := b__law_values, F__law_right := F__law_right, b__law_right := b__law_right, F_are_great := F_are_great, b_are_great := b_are_great, F_in_order := F_in_order, b_in_order := b_in_order, F_check_hooks := F_check_hooks, b_check_hooks := b_check_hooks, F_are_small := F_are_small, b_are_small := b_are_small, F_check_parts := F_check_parts, b_check_parts := b_check_parts, F_is_string := F_is_string, b_is_string := b_is_string, F_check_strings := F_check_strings, b_check_strings := b_check_strings, F_is_integer := F_is_integer, b_is_integer := b_is_integer, F_is_number := F_is_number, b_is_number := b_is_number, F_is_tie := F_is_tie, b_is_tie := b_is_tie, F_check_ties := F_check_ties, b_check_ties := b_check_ties, F_distances_of := F_distances_of, b_distances_of := b_distances_of, F_Puppet___init__ := F_Puppet___init__, b_Puppet___init__ := b_Puppet___init__, F_stick_man := F_stick_man, b_stick_man := b_stick_man, F_two_lines := F_two_lines, b_two_lines := b_two_lines, F_law := F_law, b_law := b_law, g__law_bag := PySem.W.mg_of X G a__law_bag, g__law_classes := PySem.W.mg_of X G a__law_classes, g__law_draw := PySem.W.mg_of X G a__law_draw, g__law_indexes := PySem.W.mg_of X G a__law_indexes, g__law_is := PySem.W.mg_of X G a__law_is, g__law_one := PySem.W.mg_of X G a__law_one, g__law_others_right := PySem.W.mg_of X G a__law_others_right, g__law_right := PySem.W.mg_of X G a__law_right, g__law_values := PySem.W.mg_of X G a__law_values, g_are_great := PySem.W.mg_of X G a_are_great, g_are_small := PySem.W.mg_of X G a_are_small, g_check_hooks := PySem.W.mg_of X G a_check_hooks, g_check_parts := PySem.W.mg_of X G a_check_parts, g_check_strings := PySem.W.mg_of X G a_check_strings, g_check_ties := PySem.W.mg_of X G a_check_ties, g_distances_of := PySem.W.mg_of X G a_distances_of, g_in_order := PySem.W.mg_of X G a_in_order, g_is_integer := PySem.W.mg_of X G a_is_integer, g_is_number := PySem.W.mg_of X G a_is_number, g_is_string := PySem.W.mg_of X G a_is_string, g_is_tie := PySem.W.mg_of X G a_is_tie, g_stick_man := PySem.W.mg_of X G a_stick_man, g_two_lines := PySem.W.mg_of X G a_two_lines, n_ArithmeticError := PySem.W.mg_none_of X G z_ArithmeticError, n_LookupError := PySem.W.mg_none_of X G z_LookupError, n_ValueError := PySem.W.mg_none_of X G z_ValueError, n_abs := PySem.W.mg_none_of X G z_abs, n_all := PySem.W.mg_none_of X G z_all, n_bool := PySem.W.mg_none_of X G z_bool, n_enumerate := PySem.W.mg_none_of X G z_enumerate, n_int := PySem.W.mg_none_of X G z_int, n_isinstance := PySem.W.mg_none_of X G z_isinstance, n_len := PySem.W.mg_none_of X G z_len, n_max := PySem.W.mg_none_of X G z_max, n_min := PySem.W.mg_none_of X G z_min, n_range := PySem.W.mg_none_of X G z_range, n_repr := PySem.W.mg_none_of X G z_repr, n_str := PySem.W.mg_none_of X G z_str, n_tuple := PySem.W.mg_none_of X G z_tuple, k_MOST_AMOUNT := ⟨_, PySem.W.mg_of X G kc_MOST_AMOUNT⟩, k_MOST_DEPTH := ⟨_, PySem.W.mg_of X G kc_MOST_DEPTH⟩, k_MOST_FACTS := ⟨_, PySem.W.mg_of X G kc_MOST_FACTS⟩, k_MOST_GUARDS := ⟨_, PySem.W.mg_of X G kc_MOST_GUARDS⟩, k_MOST_HAULS := ⟨_, PySem.W.mg_of X G kc_MOST_HAULS⟩, k_MOST_HOOKS := ⟨_, PySem.W.mg_of X G kc_MOST_HOOKS⟩, k_MOST_MOVES := ⟨_, PySem.W.mg_of X G kc_MOST_MOVES⟩, k_MOST_OVERS := ⟨_, PySem.W.mg_of X G kc_MOST_OVERS⟩, k_MOST_PARTS := ⟨_, PySem.W.mg_of X G kc_MOST_PARTS⟩, k_MOST_SIGHTS := ⟨_, PySem.W.mg_of X G kc_MOST_SIGHTS⟩, k_MOST_STRINGS := ⟨_, PySem.W.mg_of X G kc_MOST_STRINGS⟩, k_MOST_TIES := ⟨_, PySem.W.mg_of X G kc_MOST_TIES⟩, k_MOST_WISHES := ⟨_, PySem.W.mg_of X G kc_MOST_WISHES⟩, g_Puppet := PySem.W.mg_of X G aC_Puppet, cl_Puppet := cf_Puppet.cl, sf_Puppet := sf_Puppet, int_Puppet := si_Puppet, sub_Puppet := sj_Puppet, mk_Puppet := ⟨mk_Puppet, a_Puppet___init__, i_Puppet___init__, kc_Puppet⟩, fl_Puppet_hooks := ⟨na_Puppet_hooks, rfl, nms_nd 2⟩, fl_Puppet_names := ⟨na_Puppet_names, rfl, nms_nd 2⟩, fl_Puppet_parts := ⟨na_Puppet_parts, rfl, nms_nd 2⟩, fl_Puppet_strings := ⟨na_Puppet_strings, rfl, nms_nd 2⟩, fl_Puppet_ties := ⟨na_Puppet_ties, rfl, nms_nd 2⟩, fl_Puppet_ways := ⟨na_Puppet_ways, rfl, nms_nd 2⟩, o_Puppet_eq := ⟨a_Puppet___eq__, i_Puppet___eq__⟩, ne_Puppet := ne_Puppet, ob_Puppet := ob_Puppet, sm := ⟨_, XS_l, XS_c⟩, xa := fun c hc => SL.xa_of (List.all_eq_true.mp XB_a c hc), hkx := fun c hc y hy => beq_iff_eq.mp (List.all_eq_true.mp (List.all_eq_true.mp XB_k c hc) y hy), gx_given := fun c _ i e => gx_use nms_nd (by decide +kernel) XB_given c i e, gx_index := fun c _ i e => gx_use nms_nd (by decide +kernel) XB_index c i e, gx_limit := fun c _ i e => gx_use nms_nd (by decide +kernel) XB_limit c i e, gx_move := fun c _ i e => gx_use nms_nd (by decide +kernel) XB_move c i e, gx_shown := fun c _ i e => gx_use nms_nd (by decide +kernel) XB_shown c i e, gx_value := fun c _ i e => gx_use nms_nd (by decide +kernel) XB_value c i e, gx_weights := fun c _ i e => gx_use nms_nd (by decide +kernel) XB_weights c i e, xin_InvalidNumber := by simp [A], xl_InvalidNumber := rfl, kpx_InvalidNumber := xk_InvalidNumber, xv_InvalidNumber := E_InvalidNumber.elim fun _ h => xvl_value h, xin_InvalidText := by simp [A], xl_InvalidText := rfl, kpx_InvalidText := xk_InvalidText, xv_InvalidText := E_InvalidText.elim fun _ h => xvl_value h, xin_InvalidForm := by simp [A], xl_InvalidForm := rfl, kpx_InvalidForm := xk_InvalidForm, xv_InvalidForm := E_InvalidForm.elim fun _ h => xvl_value h, xin_InvalidName := by simp [A], xl_InvalidName := rfl, kpx_InvalidName := xk_InvalidName, xv_InvalidName := E_InvalidName.elim fun _ h => xvl_value h, xin_InvalidFacts := by simp [A], xl_InvalidFacts := rfl, kpx_InvalidFacts := xk_InvalidFacts, xv_InvalidFacts := E_InvalidFacts.elim fun _ h => xvl_index h, xin_InvalidParts := by simp [A], xl_InvalidParts := rfl, kpx_InvalidParts := xk_InvalidParts, xv_InvalidParts := E_InvalidParts.elim fun _ h => xvl_index h, xin_InvalidTies := by simp [A], xl_InvalidTies := rfl, kpx_InvalidTies := xk_InvalidTies, xv_InvalidTies := E_InvalidTies.elim fun _ h => xvl_index h, xin_InvalidHooks := by simp [A], xl_InvalidHooks := rfl, kpx_InvalidHooks := xk_InvalidHooks, xv_InvalidHooks := E_InvalidHooks.elim fun _ h => xvl_value h, xin_InvalidStrings := by simp [A], xl_InvalidStrings := rfl, kpx_InvalidStrings := xk_InvalidStrings, xv_InvalidStrings := E_InvalidStrings.elim fun _ h => xvl_index h, xin_InvalidHeights := by simp [A], xl_InvalidHeights := rfl, kpx_InvalidHeights := xk_InvalidHeights, xv_InvalidHeights := E_InvalidHeights.elim fun _ h => xvl_value h, xin_InvalidLengths := by simp [A], xl_InvalidLengths := rfl, kpx_InvalidLengths := xk_InvalidLengths, xv_InvalidLengths := E_InvalidLengths.elim fun _ h => xvl_value h, xin_InvalidMoves := by simp [A], xl_InvalidMoves := rfl, kpx_InvalidMoves := xk_InvalidMoves, xv_InvalidMoves := E_InvalidMoves.elim fun _ h => xvl_index h, xin_InvalidMoment := by simp [A], xl_InvalidMoment := rfl, kpx_InvalidMoment := xk_InvalidMoment, xv_InvalidMoment := E_InvalidMoment.elim fun _ h => xvl_value h, xin_InvalidLevel := by simp [A], xl_InvalidLevel := rfl, kpx_InvalidLevel := xk_InvalidLevel, xv_InvalidLevel := E_InvalidLevel.elim fun _ h => xvl_value h, xin_InvalidWish := by simp [A], xl_InvalidWish := rfl, kpx_InvalidWish := xk_InvalidWish, xv_InvalidWish := E_InvalidWish.elim fun _ h => xvl_value h, xin_InvalidSights := by simp [A], xl_InvalidSights := rfl, kpx_InvalidSights := xk_InvalidSights, xv_InvalidSights := E_InvalidSights.elim fun _ h => xvl_index h, xin_InvalidGuards := by simp [A], xl_InvalidGuards := rfl, kpx_InvalidGuards := xk_InvalidGuards, xv_InvalidGuards := E_InvalidGuards.elim fun _ h => xvl_index h, xin_InvalidLine := by simp [A], xl_InvalidLine := rfl, kpx_InvalidLine := xk_InvalidLine, xv_InvalidLine := E_InvalidLine.elim fun _ h => xvl_value h, xin_NotFacts := by simp [A], xl_NotFacts := rfl, kpx_NotFacts := xk_NotFacts, xv_NotFacts := E_NotFacts.elim fun _ h => xvl_value h, xin_NotAPuppet := by simp [A], xl_NotAPuppet := rfl, kpx_NotAPuppet := xk_NotAPuppet, xv_NotAPuppet := E_NotAPuppet.elim fun _ h => xvl_value h, xin_NotAScript := by simp [A], xl_NotAScript := rfl, kpx_NotAScript := xk_NotAScript, xv_NotAScript := E_NotAScript.elim fun _ h => xvl_value h, xin_NotARun := by simp [A], xl_NotARun := rfl, kpx_NotARun := xk_NotARun, xv_NotARun := E_NotARun.elim fun _ h => xvl_value h, xin_NotAWish := by simp [A], xl_NotAWish := rfl, kpx_NotAWish := xk_NotAWish, xv_NotAWish := E_NotAWish.elim fun _ h => xvl_value h, xin_UnknownPart := by simp [A], xl_UnknownPart := rfl, kpx_UnknownPart := xk_UnknownPart, xv_UnknownPart := E_UnknownPart.elim fun _ h => xvl_value h, xin_UnknownHook := by simp [A], xl_UnknownHook := rfl, kpx_UnknownHook := xk_UnknownHook, xv_UnknownHook := E_UnknownHook.elim fun _ h => xvl_value h, xin_UnknownName := by simp [A], xl_UnknownName := rfl, kpx_UnknownName := xk_UnknownName, xv_UnknownName := E_UnknownName.elim fun _ h => xvl_value h, xin_NoWay := by simp [A], xl_NoWay := rfl, kpx_NoWay := xk_NoWay, xv_NoWay := E_NoWay.elim fun _ h => xvl_index h, xin_OtherNames := by simp [A], xl_OtherNames := rfl, kpx_OtherNames := xk_OtherNames, xv_OtherNames := E_OtherNames.elim fun _ h => xvl_given h, xin_OtherParts := by simp [A], xl_OtherParts := rfl, kpx_OtherParts := xk_OtherParts, xv_OtherParts := E_OtherParts.elim fun _ h => xvl_given h, xin_Contradictory := by simp [A], xl_Contradictory := rfl, kpx_Contradictory := xk_Contradictory, xv_Contradictory := E_Contradictory.elim fun _ h => xvl_weights h, xin_Never := by simp [A], xl_Never := rfl, kpx_Never := xk_Never, xm_Never := rfl, xv_Never := SL.xv_made0 PySem.F.excBase_LookupError E_Never, xin_Busy := by simp [A], xl_Busy := rfl, kpx_Busy := xk_Busy, xm_Busy := rfl, xv_Busy := SL.xv_made0 PySem.F.excBase_LookupError E_Busy, xin_NothingToUndo := by simp [A], xl_NothingToUndo := rfl, kpx_NothingToUndo := xk_NothingToUndo, xm_NothingToUndo := rfl, xv_NothingToUndo := SL.xv_made0 PySem.F.excBase_LookupError E_NothingToUndo, xin_Refused := by simp [A], xl_Refused := rfl, kpx_Refused := xk_Refused, xv_Refused := E_Refused.elim fun _ h => xvl2 h, xin_TooMany := by simp [A], xl_TooMany := rfl, kpx_TooMany := xk_TooMany, xv_TooMany := E_TooMany.elim fun _ h => xvl_limit h, g_ShapeError := PySem.W.mg_of X G aC_ShapeError, g_InvalidNumber := PySem.W.mg_of X G aC_InvalidNumber, g_InvalidText := PySem.W.mg_of X G aC_InvalidText, g_InvalidForm := PySem.W.mg_of X G aC_InvalidForm, g_InvalidName := PySem.W.mg_of X G aC_InvalidName, g_InvalidFacts := PySem.W.mg_of X G aC_InvalidFacts, g_InvalidParts := PySem.W.mg_of X G aC_InvalidParts, g_InvalidTies := PySem.W.mg_of X G aC_InvalidTies, g_InvalidHooks := PySem.W.mg_of X G aC_InvalidHooks, g_InvalidStrings := PySem.W.mg_of X G aC_InvalidStrings, g_InvalidHeights := PySem.W.mg_of X G aC_InvalidHeights, g_InvalidLengths := PySem.W.mg_of X G aC_InvalidLengths, g_InvalidMoves := PySem.W.mg_of X G aC_InvalidMoves, g_InvalidMoment := PySem.W.mg_of X G aC_InvalidMoment, g_InvalidLevel := PySem.W.mg_of X G aC_InvalidLevel, g_InvalidWish := PySem.W.mg_of X G aC_InvalidWish, g_InvalidSights := PySem.W.mg_of X G aC_InvalidSights, g_InvalidGuards := PySem.W.mg_of X G aC_InvalidGuards, g_InvalidLine := PySem.W.mg_of X G aC_InvalidLine, g_NotFacts := PySem.W.mg_of X G aC_NotFacts, g_NotAPuppet := PySem.W.mg_of X G aC_NotAPuppet, g_NotAScript := PySem.W.mg_of X G aC_NotAScript, g_NotARun := PySem.W.mg_of X G aC_NotARun, g_NotAWish := PySem.W.mg_of X G aC_NotAWish, g_QuestionError := PySem.W.mg_of X G aC_QuestionError, g_UnknownPart := PySem.W.mg_of X G aC_UnknownPart, g_UnknownHook := PySem.W.mg_of X G aC_UnknownHook, g_UnknownName := PySem.W.mg_of X G aC_UnknownName, g_NoWay := PySem.W.mg_of X G aC_NoWay, g_OtherNames := PySem.W.mg_of X G aC_OtherNames, g_OtherParts := PySem.W.mg_of X G aC_OtherParts, g_Contradictory := PySem.W.mg_of X G aC_Contradictory, g_Never := PySem.W.mg_of X G aC_Never, g_Busy := PySem.W.mg_of X G aC_Busy, g_NothingToUndo := PySem.W.mg_of X G aC_NothingToUndo, g_Refused := PySem.W.mg_of X G aC_Refused, g_SizeError := PySem.W.mg_of X G aC_SizeError, g_TooMany := PySem.W.mg_of X G aC_TooMany }
  exact OL _ _ _ _ _ _ _ T
theorem walk {l : PySem.W.OpenLaw} {q : Program} {loose : List Str} {XP : (Str → Option Value) → Heap → Prop} {YP : World → Heap → Prop} {d : DefRec} {K : Params → PySem.W.Frag} (hn : l.most = some 63) (hdf : d.params.defaults = [])
    (hY : ∀ (w : World) (h : Heap), YP w h → (K w.params).In h)
    (F : ∀ (w : World) (mg : Str → Option Value) (fa : Addr) (h : Heap), (K w.params).In h → h.Ns mainGlobals mg → mg d.name = some (.ref fa) →
      (∀ (x : Str) (c P : Addr), ((PyProof.Rows.recsOf q).any fun e => e.name == x) = true → PySem.W.tabIn (K w.params) x = some (c, P) → PySem.W.CodeHd h c P ∧ h.get? P = some { cls := .none, data := .fields #[] }) → SL.LawAtT l w (K w.params) (L2.CX l.prog w) 14 63 "_law_cells" mg fa h) :
    PySem.W.WalkO q loose XP YP l.row.toRowW d [] (fun f vs => PySem.call f vs) :=
  SL.walk_ofT (n := 63) (k := 14) (x := "_law_cells") (CX := fun w => L2.CX l.prog w) hn (by decide) hdf ⟨⟨rfl, by decide, by decide⟩, rfl⟩ hY F fun _ _ _ _ _ h => by
    obtain ⟨_, _, _, _, _, _, _, _, _, _, _, _, z⟩ := h
    exact z
end DY

set_option Elab.async false
set_option linter.all false
set_option maxRecDepth 100000
set_option maxHeartbeats 4000000
namespace DY
/-! ### what a mirror answers, step by step -/
section
variable {α β : Type} {m : R α} {f : α → R β} {P Q : α → Prop}
end
section
variable {A B : Prop}
end
section
variable {ρ : Env} {P : D → Bool → Env → Prop} {Q : D → Bool → Prop} {a b c t e k z : Ev} {i : Nat} {d : D} {f g : D → D → R Rv} {ms ks pre post : List Ev} {F : Fn} {G : FnR}
local macro_rules | `(tactic| walk_at "w") => `(tactic| (simp only [eBin, eUn, eBor, eBorR, eBor1, eN, eIf, eAnd, eOr, eNot, eChain, eCallR, eCallT, eMeth, eMethK, eNK, eMut, eGet, eGetS, eSlice, sAsgT, sExpr, sRet, sRetV, sIf, sPut, sFld, val, evs, bind, R.bind, pure, isB, if_true, if_false, Bool.false_eq_true, *]))
end
/-! statements -/
section
variable {ρ : Env} {P : Out → Env → Prop} {a b : Sv} {t e v : Ev} {i j : Nat} {d : D} {w : Bool} {g : Tg} {it : Iv}

local macro_rules | `(tactic| walk_at "w") => `(tactic| (simp only [eBin, eUn, eBor, eBorR, eBor1, eN, eIf, eAnd, eOr, eNot, eChain, eCallR, eCallT, eMeth, eMethK, eNK, eMut, eGet, eGetS, eSlice, sAsgT, sExpr, sRet, sRetV, sIf, sPut, sFld, val, evs, bind, R.bind, pure, isB, if_true, if_false, Bool.false_eq_true, *]))
/-- what a name takes -/
def kp (d : D) : Bool → Slot
  | true => .ow d
  | false => .sh d
/-! defs -/
/-! walks -/
/-! comprehensions -/
/-! dicts -/
end
end DY

set_option Elab.async false
set_option linter.all false
set_option maxRecDepth 100000
set_option maxHeartbeats 4000000
namespace SL
open PySem L2 PySem.Spec PyProof.Rows

/-! ### Ratios -/
def RatAt (a : Cl) (H : Hp) (p : Addr) (n d : Int) : Prop := ∃ dx, H p = some (.ins a.C_Ratio dx [("top", .int n), ("bottom", .int d)])
theorem RatAt.up {a : Cl} {H H' : Hp} {p : Addr} {n d : Int} (e : L2.Same H H') (h : RatAt a H p n d) : RatAt a H' p n d := let ⟨dx, h⟩ := h; ⟨dx, e _ _ h⟩
section
variable {K : PySem.W.Frag} {a : Cl} {H : Hp} {Q : VK} {p : Addr} {n d : Int}
end

/-! ### the promises -/
/-! ### readings -/
abbrev nm_is_integer : List Str := ["value"]
local macro_rules | `(tactic| walk_at "up") => `(tactic| first | assumption | exact upd_same | (apply SL.RatAt.up; assumption; walk_at "up") | (apply SL.Same.at; assumption; walk_at "up"))
local macro_rules | `(tactic| walk_at "s0") => `(tactic| first
  | with_reducible refine SL.go_var (by with_unfolding_all rfl) ?_
  | with_reducible refine SL.go_seq ?_
  | with_reducible refine SL.go_next ?_
  | with_reducible refine SL.go_asg ?_
  | with_reducible refine SL.go_gname ?_
  | with_reducible refine SL.go_ret ?_
  | with_reducible refine SL.go_drop ?_
  | with_reducible refine SL.go_ifs ?_
  | with_reducible refine SL.go_c ?_
  | with_reducible refine SL.go_op ?_
  | with_reducible refine SL.go_un ?_
  | with_reducible refine SL.go_I0 ?_
  | with_reducible refine SL.go_U ?_
  | with_reducible refine SL.go_test ?_
  | with_reducible refine SL.go_tb ?_
  | with_reducible refine SL.go_bl ?_
  | with_reducible refine SL.go_eqI ?_
  | with_reducible refine SL.go_neI ?_
  | with_reducible refine SL.go_eqB ?_
  | with_reducible refine SL.go_neB ?_
  | with_reducible refine SL.go_eqS ?_
  | with_reducible refine SL.go_neS ?_
  | with_reducible refine SL.go_and ?_
  | with_reducible refine SL.go_or ?_
  | with_reducible refine SL.go_not ?_
  | with_reducible refine SL.go_andV ?_
  | with_reducible refine SL.go_orV ?_
  | with_reducible refine SL.go_notV ?_
  | with_reducible refine SL.go_if ?_
  | with_reducible refine SL.go_T ?_
  | with_reducible refine SL.go_F ?_
  | with_reducible refine SL.go_nT ?_
  | with_reducible refine SL.go_nF ?_
  | with_reducible refine SL.go_nil ?_
  | with_reducible refine SL.go_cons ?_
  | with_reducible refine SL.go_call ?_
  | with_reducible refine SL.go_cb ?_
  | with_reducible refine SL.go_par ?_
  | with_reducible refine SL.go_pair ?_
  | with_reducible refine SL.go_tup ?_
  | with_reducible refine SL.go_lst ?_
  | with_reducible refine SL.go_fldC ?_
  | with_reducible refine SL.go_sfld ?_
  | with_reducible refine SL.go_sub ?_
  | with_reducible refine SL.go_sl ?_
  | with_reducible refine SL.go_noPart ?_
  | with_reducible refine SL.go_part ?_
  | with_reducible refine SL.go_partE ?_
  | with_reducible refine SL.go_abs ?_
  | with_reducible refine SL.go_max2 ?_
  | with_reducible refine SL.go_min2 ?_
  | with_reducible refine SL.go_int ?_
  | with_reducible refine SL.go_intB ?_
  | with_reducible refine SL.go_bm ?_
  | with_reducible refine SL.go_meth ?_
  | with_reducible refine SL.go_methN ?_
  | with_reducible refine SL.go_make ?_
  | with_reducible refine SL.go_makeK ?_
  | with_reducible refine SL.go_for ?_
  | with_reducible refine SL.go_iList ?_
  | with_reducible refine SL.go_iTup ?_
  | with_reducible refine SL.go_iRng1 ?_
  | with_reducible refine SL.go_iRng2 ?_
  | with_reducible refine SL.go_lc ?_
  | with_reducible refine SL.go_yes ?_
  | with_reducible refine SL.go_chain ?_
  | with_reducible refine SL.go_j ?_
  | with_reducible refine SL.go_js0 ?_
  | with_reducible refine SL.go_js ?_
  | with_reducible refine SL.go_fmt ?_
  | with_reducible refine SL.go_m1 ?_
  | with_reducible refine SL.go_ltS ?_
  | with_reducible refine SL.go_leS ?_
  | with_reducible refine SL.go_strS ?_
  | with_reducible refine SL.go_iStr ?_
  | with_reducible refine SL.go_iZip ?_
  | with_reducible refine SL.go_iKeys ?_
  | with_reducible refine SL.go_dget ?_
  | with_reducible refine SL.go_dc ?_)
local macro_rules | `(tactic| walk_at "go") => `(tactic| repeat walk_at "s0")
local macro_rules | `(tactic| walk_at "nw") => `(tactic| (refine ⟨SL.szL (by simp), fun p n => ?_⟩; generalize q : upd _ p _ = H'; have e := SL.Same.new' n q; have h := SL.at_new q; clear q))
local macro_rules | `(tactic| walk_at "nw0") => `(tactic| (intro p n; generalize q : upd _ p _ = H'; have e := SL.Same.new' n q; have h := SL.at_new q; clear q))
section
variable {K : PySem.W.Frag} {a : Cl} {vs : List V} {H : Hp} {Q : VK} {E : XK}
abbrev ends (Q : VK) : Ends := { nx := fun _ H' => Q .non H', rt := Q }

/-! ### Ratio(..) -/
end
end SL

set_option Elab.async false
set_option linter.all false
set_option maxRecDepth 100000
set_option maxHeartbeats 4000000
namespace SL
/-! ### reckoning with lowest terms and with any terms gives the same -/
section
variable {n1 d1 n2 d2 : Int}
variable {m : Int}
end
end SL

set_option Elab.async false
set_option linter.all false
set_option maxRecDepth 100000
set_option maxHeartbeats 4000000
namespace DY
/-! ### steps -/
theorem mulOk_s {i j : Int} (hi : i.natAbs < 2 ^ 400000) (hj : j.natAbs < 2 ^ 400000) : mulOk i j = true := by
  have key : ∀ n : Nat, n < 2 ^ 400000 → n.log2 < 400000 := fun n h => by
    by_cases z : n = 0
    · subst z; decide
    · exact (Nat.log2_lt z).mpr h
  unfold mulOk
  rw [decide_eq_true_eq]
  have := key _ hi
  have := key _ hj
  omega
theorem mulOk_b {i j : Int} (h1 : -2 ^ 200 ≤ i) (h2 : i ≤ 2 ^ 200) (h3 : -2 ^ 200 ≤ j) (h4 : j ≤ 2 ^ 200) : mulOk i j = true := by
  have e : (2 : Nat) ^ 201 ≤ 2 ^ 400000 := Nat.pow_le_pow_right (by decide) (by decide)
  exact mulOk_s (Nat.lt_of_lt_of_le (by omega) e) (Nat.lt_of_lt_of_le (by omega) e)
theorem divOk_b {j : Int} (h1 : 0 < j) (h2 : j ≤ 2 ^ 200) : divOk j = true := by
  unfold divOk
  rw [Bool.and_eq_true, decide_eq_true_eq, decide_eq_true_eq]
  refine ⟨by omega, ?_⟩
  have : j.natAbs.log2 < 201 := (Nat.log2_lt (by omega)).mpr (by omega)
  omega
theorem fm_lo (i : Int) {j : Int} (h : 0 < j) : 0 ≤ i.fmod j := Int.fmod_nonneg_of_pos i h
theorem fm_hi (i : Int) {j : Int} (h : 0 < j) : i.fmod j < j := Int.fmod_lt_of_pos i h
theorem at_ok {xs : List D} {i : Int} (h0 : 0 ≤ i) (h1 : i < xs.length) : ∃ d, xs[i.toNat]? = some d ∧ atI xs i = some d := by
  have hl : i.toNat < xs.length := by omega
  refine ⟨xs[i.toNat], List.getElem?_eq_getElem hl, ?_⟩
  unfold atI ixN
  rw [if_pos h0, if_pos h1]
  exact List.getElem?_eq_getElem hl
theorem cut_map {α β : Type} (f : α → β) (xs : List α) (lo hi : Option Int) : cut (xs.map f) lo hi = (cut xs lo hi).map f := by
  unfold cut
  rw [List.length_map, List.map_take, List.map_drop]
end DY

set_option Elab.async false
set_option linter.all false
set_option maxRecDepth 100000
set_option maxHeartbeats 4000000
namespace DY
/-! ### a mirror is run by rewriting: only what stands at the head -/
/-- a mark that keeps the rewriting out of a -/
inductive Tr {α : Type} (a : α) : Type where
  | mk
section
variable {α β γ : Type} {m m' : R α} {f : α → R β} {g : β → R γ} {a : α} {P : α → Prop} {d d' : D} {A B : R α}
def bnd (m : R α) (f : α → R β) (_ : Tr f := .mk) : R β := R.bind m f
def Wn (m : R α) (P : α → Prop) (_ : Tr P := .mk) : Prop := ∃ a, m = .ok a ∧ P a
theorem bnd_ok : bnd (.ok a) f = f a := rfl
theorem bnd_bnd : bnd (bnd m f) g = bnd m (fun x => bnd (f x) g) := by cases m <;> rfl
theorem bnd_fun {f' : α → R β} (h : ∀ x, f x = f' x) : bnd m f = bnd m f' := by rw [funext h]
theorem Wn_ok : Wn (.ok a) P = P a := propext ⟨fun ⟨b, e, h⟩ => by cases e; exact h, fun h => ⟨a, rfl, h⟩⟩
theorem Wn.eq (h : Wn m (· = a)) : m = .ok a := by obtain ⟨b, e, rfl⟩ := h; exact e
theorem Wn.mono {Q : α → Prop} (h : Wn m P) (k : ∀ a, P a → Q a) : Wn m Q := by
  obtain ⟨a, e, h⟩ := h
  exact ⟨a, e, k a h⟩
/-- a test -/
def cnd (d : D) (A B : R α) (_ : Tr A := .mk) (_ : Tr B := .mk) : R α := match d with
  | .bl true => A
  | .bl false => B
  | _ => .no
theorem cnd_t : cnd (.bl true) A B = A := rfl
theorem cnd_f : cnd (.bl false) A B = B := rfl
theorem cnd_n {b : Bool} : cnd (.bl (!b)) A B = cnd (.bl b) B A := by cases b <;> rfl
theorem cnd_p {p : Prop} [Decidable p] (h : p) : cnd (.bl (decide p)) A B = A := by rw [decide_eq_true h]; rfl
theorem cnd_q {p : Prop} [Decidable p] (h : ¬ p) : cnd (.bl (decide p)) A B = B := by rw [decide_eq_false h]; rfl
theorem isB_cnd {F : Bool → R α} : (isB d >>= F) = cnd d (F true) (F false) := by
  cases d with
  | bl b => cases b <;> rfl
  | _ => rfl
end
section
variable {α : Type} {P : α → Prop} {β : Type} {A B : R β} {k : β → R α}
theorem wp_d {p : Prop} [Decidable p] (h : p → Wn (bnd A k) P) (h' : ¬ p → Wn (bnd B k) P) : Wn (bnd (cnd (.bl (decide p)) A B) k) P := by
  by_cases q : p
  · rw [cnd_p q]; exact h q
  · rw [cnd_q q]; exact h' q
theorem wp_use {m : R β} {Q : β → Prop} (h : Wn m Q) (k' : ∀ x, Q x → Wn (k x) P) : Wn (bnd m k) P := by
  obtain ⟨a, rfl, h⟩ := h
  exact k' a h
end
/-! ### expressions -/
def varG : Option Slot → Nat → Env → R (Rv × Env)
  | some (.sh d), _, ρ => .ok ((d, false), ρ)
  | some (.ow d), i, ρ => .ok ((d, false), ρ.set i (.sh d))
  | _, _, _ => .no
def movG : Option Slot → Nat → Env → R (Rv × Env)
  | some (.sh d), _, ρ => .ok ((d, false), ρ)
  | some (.ow d), i, ρ => .ok ((d, true), ρ.set i .un)
  | _, _, _ => .no
def lookG : Option Slot → R D
  | some (.sh d) => .ok d
  | some (.ow d) => .ok d
  | _ => .no
def ownG : Option Slot → R D
  | some (.ow d) => .ok d
  | _ => .no
section
variable {o o' : Option Slot} {i : Nat} {ρ : Env} {d : D}
theorem varG_sh : varG (some (.sh d)) i ρ = .ok ((d, false), ρ) := rfl
theorem varG_ow : varG (some (.ow d)) i ρ = .ok ((d, false), ρ.set i (.sh d)) := rfl
theorem movG_sh : movG (some (.sh d)) i ρ = .ok ((d, false), ρ) := rfl
theorem movG_ow : movG (some (.ow d)) i ρ = .ok ((d, true), ρ.set i .un) := rfl
theorem lookG_sh : lookG (some (.sh d)) = .ok d := rfl
theorem lookG_ow : lookG (some (.ow d)) = .ok d := rfl
theorem ownG_ow : ownG (some (.ow d)) = .ok d := rfl
theorem get_0 {s : Slot} : (s :: ρ)[0]? = some s := rfl
theorem get_s {s : Slot} : (s :: ρ)[i + 1]? = ρ[i]? := List.getElem?_cons_succ
theorem set_0 {s t : Slot} : (s :: ρ).set 0 t = t :: ρ := rfl
theorem set_s {s t : Slot} : (s :: ρ).set (i + 1) t = s :: ρ.set i t := rfl
theorem ev_var : eVar i ρ = varG ρ[i]? i ρ := by unfold eVar; split <;> simp_all [varG]
theorem ev_mov0 : eMove i ρ = movG ρ[i]? i ρ := by unfold eMove; split <;> simp_all [movG]
theorem ev_look : look ρ i = lookG ρ[i]? := rfl
theorem ev_c : eC d ρ = .ok ((d, false), ρ) := rfl
theorem ev_c0 : eC0 d ρ = .ok ((d, true), ρ) := rfl
end
section
variable {ρ : Env} {a b c t e k z : Ev} {i j n : Nat} {d : D} {f g : D → D → R Rv} {f1 : D → R Rv} {ms ks pre post : List Ev} {F : Fn} {G : FnR} {fn : List D → R Rv} {q : List D → List D → List D}
theorem val_bnd {β : Type} {F : D × Env → R β} : (val a ρ >>= F) = bnd (a ρ) fun r => F (r.1.1, r.2) := by unfold val; cases a ρ <;> rfl
theorem isB_bnd {β : Type} {F : Bool → R β} : (isB d >>= F) = cnd d (F true) (F false) := isB_cnd
theorem ev_bin : eBin f a b ρ = bnd (a ρ) fun r => bnd (b r.2) fun s => bnd (f r.1.1 s.1.1) fun t => .ok (t, s.2) := by unfold eBin; simp only [val_bnd]; rfl
theorem ev_un : eUn f1 a ρ = bnd (a ρ) fun r => bnd (f1 r.1.1) fun t => .ok (t, r.2) := by unfold eUn; simp only [val_bnd]; rfl
theorem ev_bor : eBor f i b ρ = bnd (look ρ i) fun _ => bnd (b ρ) fun s => bnd (look s.2 i) fun x => bnd (f x s.1.1) fun t => .ok (t, s.2) := by unfold eBor; simp only [val_bnd]; rfl
theorem ev_borR : eBorR f a i ρ = bnd (a ρ) fun r => bnd (look r.2 i) fun y => bnd (f r.1.1 y) fun t => .ok (t, r.2) := by unfold eBorR; simp only [val_bnd]; rfl
theorem ev_bor1 : eBor1 f1 i ρ = bnd (look ρ i) fun x => bnd (f1 x) fun t => .ok (t, ρ) := rfl
theorem ev_nil : evs [] ρ = .ok ([], ρ) := rfl
theorem ev_cons : evs (e :: ms) ρ = bnd (e ρ) fun r => bnd (evs ms r.2) fun s => .ok (r.1.1 :: s.1, s.2) := by rw [evs]; simp only [val_bnd]; rfl
theorem ev_n : eN fn ms ρ = bnd (evs ms ρ) fun r => bnd (fn r.1) fun t => .ok (t, r.2) := rfl
theorem ev_if : eIf t a b ρ = bnd (t ρ) fun r => cnd r.1.1 (a r.2) (b r.2) := by unfold eIf; simp only [val_bnd, isB_bnd]; rfl
theorem ev_and : eAnd a b ρ = bnd (a ρ) fun r => cnd r.1.1 (b r.2) (.ok ((.bl false, false), r.2)) := by unfold eAnd; simp only [val_bnd, isB_bnd]; rfl
theorem ev_or : eOr a b ρ = bnd (a ρ) fun r => cnd r.1.1 (.ok ((.bl true, false), r.2)) (b r.2) := by unfold eOr; simp only [val_bnd, isB_bnd]; rfl
def notR : D → R Rv
  | .bl b => .ok (.bl (!b), false)
  | _ => .no
theorem notR_bl {x : Bool} : notR (.bl x) = .ok (.bl (!x), false) := rfl
theorem ev_not : eNot a ρ = bnd (a ρ) fun r => bnd (notR r.1.1) fun t => .ok (t, r.2) := by
  unfold eNot; simp only [val_bnd]; refine bnd_fun fun r => ?_; obtain ⟨⟨d, k⟩, ρ⟩ := r; cases d <;> rfl
theorem ev_chain : eChain f g a b c ρ = bnd (a ρ) fun r => bnd (b r.2) fun s => bnd (f r.1.1 s.1.1) fun t => cnd t.1 (bnd (c s.2) fun u => bnd (g s.1.1 u.1.1) fun v => .ok (v, u.2)) (.ok ((.bl false, false), s.2)) := by
  unfold eChain; simp only [val_bnd, isB_bnd]; rfl
theorem ev_callR : eCallR G pre i post ρ = bnd (look ρ i) fun _ => bnd (evs pre ρ) fun r => bnd (evs post r.2) fun s => bnd (ownG s.2[i]?) fun d => bnd (G (r.1 ++ s.1) d) fun u => .ok (u.1, s.2.set i (.ow u.2)) := by
  show bnd (look ρ i) (fun _ => bnd (evs pre ρ) fun r => bnd (evs post r.2) fun s => _) = _
  refine bnd_fun fun _ => ?_; refine bnd_fun fun r => ?_; refine bnd_fun fun s => ?_
  dsimp only
  split
  · rename_i q; rw [q]; rfl
  · rename_i q
    cases q2 : s.2[i]? with
    | none => rfl
    | some u => cases u with
      | ow d => exact absurd q2 (q d)
      | _ => rfl
theorem ev_callT : eCallT G pre e ρ = bnd (evs pre ρ) fun r => bnd (e r.2) fun s => cnd (.bl s.1.2) (bnd (G r.1 s.1.1) fun u => .ok (u.1, s.2)) .no := by
  show bnd (evs pre ρ) (fun r => bnd (e r.2) fun s => _) = _
  refine bnd_fun fun r => ?_; refine bnd_fun fun s => ?_
  obtain ⟨⟨d, k⟩, ρ'⟩ := s
  cases k <;> rfl
theorem ev_nk : eNK F q ms ks ρ = bnd (evs ms ρ) fun s => bnd (evs ks s.2) fun u => bnd (F (q s.1 u.1)) fun t => .ok (t, u.2) := rfl
theorem isL_ok {xs : List D} : isL (.lst xs) = .ok () := rfl
theorem ev_mut {fm : D → List D → R (D × D)} : eMut fm i ms ρ = bnd (look ρ i) fun d0 => bnd (isL d0) fun _ => bnd (evs ms ρ) fun r => bnd (ownG r.2[i]?) fun d => bnd (fm d r.1) fun u => .ok ((u.1, false), r.2.set i (.ow u.2)) := by
  show bnd (look ρ i) (fun d0 => bnd (isL d0) fun _ => bnd (evs ms ρ) fun r => _) = _
  refine bnd_fun fun d0 => ?_; refine bnd_fun fun _ => ?_; refine bnd_fun fun s => ?_
  dsimp only
  split
  · rename_i q; rw [q]; rfl
  · rename_i q
    cases q2 : s.2[i]? with
    | none => rfl
    | some u => cases u with
      | ow d => exact absurd q2 (q d)
      | _ => rfl
def intR : D → R Int
  | .int i => .ok i
  | _ => .no
theorem intR_i {i : Int} : intR (.int i) = .ok i := rfl
theorem ev_part0 : part none ρ = .ok (none, ρ) := rfl
theorem ev_part1 : part (some e) ρ = bnd (e ρ) fun r => bnd (intR r.1.1) fun i => .ok (some i, r.2) := by
  unfold part; simp only [val_bnd]; refine bnd_fun fun r => ?_; obtain ⟨⟨d, k⟩, ρ⟩ := r; cases d <;> rfl
theorem ev_slice {lo hi : Option Ev} : eSlice a lo hi ρ = bnd (a ρ) fun r => bnd (part lo r.2) fun l => bnd (part hi l.2) fun h => bnd (sliceD l.1 h.1 r.1.1) fun t => .ok (t, h.2) := by unfold eSlice; simp only [val_bnd]; rfl
end
/-! ### statements -/
section
variable {ρ : Env} {a b : Sv} {t e v : Ev} {i j n p c : Nat} {d : D} {w : Bool} {g : Tg} {it : Iv} {ds : List D}
def seqk (b : Sv) : Out → Env → R (Out × Env)
  | .nx, ρ => b ρ
  | o, ρ => .ok (o, ρ)
theorem seqk_nx : seqk b .nx ρ = b ρ := rfl
theorem seqk_rt {r : Rv} : seqk b (.rt r) ρ = .ok (.rt r, ρ) := rfl
theorem ev_seq : sSeq a b ρ = bnd (a ρ) fun r => seqk b r.1 r.2 := by
  show bnd (a ρ) _ = _
  refine bnd_fun fun r => ?_; obtain ⟨o, ρ⟩ := r; cases o <;> rfl
theorem ev_next : sNext ρ = .ok (.nx, ρ) := rfl
theorem keep_tt : keep true (d, true) = .ow d := rfl
theorem keep_tf : keep true (d, false) = .sh d := rfl
theorem ev_asg : sAsg w i e ρ = bnd (e ρ) fun r => .ok (.nx, r.2.set i (keep w r.1)) := rfl
theorem ev_par {a b : Ev} : sPar w i j a b ρ = bnd (a ρ) fun r => bnd (b r.2) fun s => .ok (.nx, (s.2.set i (keep w r.1)).set j (keep w s.1)) := rfl
theorem ev_gN : gN i d ρ = .ok (ρ.set i (.sh d)) := rfl
theorem ev_gTt {gs : List Tg} : gT gs (.tup ds) ρ = gGo gs ds ρ := rfl
theorem ev_gTk {gs : List Tg} : gT gs (.kt ds) ρ = gGo gs ds ρ := rfl
theorem ev_g0 : gGo [] [] ρ = .ok ρ := rfl
theorem ev_g1 {gs : List Tg} : gGo (g :: gs) (d :: ds) ρ = bnd (g d ρ) fun ρ1 => gGo gs ds ρ1 := rfl
theorem ev_expr : sExpr e ρ = bnd (e ρ) fun r => .ok (.nx, r.2) := by unfold sExpr; simp only [val_bnd]; rfl
theorem ev_ret : sRet e ρ = bnd (e ρ) fun r => .ok (.rt r.1, r.2) := rfl
theorem ev_retV : sRetV i ρ = bnd (eMove i ρ) fun r => .ok (.rt r.1, r.2) := rfl
theorem ev_sif : sIf t a b ρ = bnd (t ρ) fun r => cnd r.1.1 (a r.2) (b r.2) := by unfold sIf; simp only [val_bnd, isB_bnd]; rfl
theorem ev_for : sFor it g a ρ = bnd (it ρ) fun r => forGo g a r.1 r.2 := rfl
theorem ev_put {f3 : D → D → D → R D} : sPut f3 i e v ρ = bnd (v ρ) fun y => bnd (look y.2 i) fun _ => bnd (e y.2) fun x => bnd (ownG x.2[i]?) fun d => bnd (f3 d x.1.1 y.1.1) fun d' => .ok (.nx, x.2.set i (.ow d')) := by
  unfold sPut; simp only [val_bnd]
  refine bnd_fun fun y => ?_
  show bnd (look _ i) _ = _
  refine bnd_fun fun _ => ?_; refine bnd_fun fun x => ?_
  split
  · rename_i q; rw [q]; rfl
  · rename_i q
    cases q2 : x.2[i]? with
    | none => rfl
    | some u => cases u with
      | ow d => exact absurd q2 (q d)
      | _ => rfl
def fldG (c k : Nat) (y : D) : Option Slot → R D
  | some (.ow (.ins c' fs)) => if c' = c ∧ k = fs.length then .ok (.ins c' (fs ++ [y])) else .no
  | _ => .no
theorem ev_fld {k : Nat} : sFld c k e ρ = bnd (e ρ) fun y => bnd (fldG c k y.1.1 y.2[0]?) fun d => .ok (.nx, y.2.set 0 (.ow d)) := by
  unfold sFld; simp only [val_bnd]
  refine bnd_fun fun y => ?_
  split
  · rename_i q
    rw [q]
    show _ = bnd (if _ ∧ _ then _ else _) _
    split <;> rfl
  · rename_i q
    cases q2 : y.2[0]? with
    | none => rfl
    | some u => cases u with
      | ow d => cases d with
        | ins c fs => exact absurd q2 (q c fs)
        | _ => rfl
      | _ => rfl
theorem fldG_0 {y : D} : fldG c 0 y (some (.ow (.ins c []))) = .ok (.ins c [y]) := by simp [fldG]
theorem fldG_1 {x y : D} : fldG c 1 y (some (.ow (.ins c [x]))) = .ok (.ins c [x, y]) := by simp [fldG]
theorem fldG_2 {x1 x2 y : D} : fldG c 2 y (some (.ow (.ins c [x1, x2]))) = .ok (.ins c [x1, x2, y]) := by simp [fldG]
theorem fldG_3 {x1 x2 x3 y : D} : fldG c 3 y (some (.ow (.ins c [x1, x2, x3]))) = .ok (.ins c [x1, x2, x3, y]) := by simp [fldG]
theorem fldG_4 {x1 x2 x3 x4 y : D} : fldG c 4 y (some (.ow (.ins c [x1, x2, x3, x4]))) = .ok (.ins c [x1, x2, x3, x4, y]) := by simp [fldG]
theorem fldG_5 {x1 x2 x3 x4 x5 y : D} : fldG c 5 y (some (.ow (.ins c [x1, x2, x3, x4, x5]))) = .ok (.ins c [x1, x2, x3, x4, x5, y]) := by simp [fldG]
/-! defs -/
theorem end_nx : endOf .nx = .ok (.non, false) := rfl
theorem end_rt {r : Rv} : endOf (.rt r) = .ok r := rfl
theorem fn_eq (hp : ds.length = p) : mkFn n p a ds = bnd (a (slots n ds)) fun r => endOf r.1 := by unfold mkFn; rw [if_pos hp]; rfl
theorem fnR_eq (hp : ds.length + 1 = p) (hj : j < p) : mkFnR n p j a ds d = bnd (a ((slots n (ds.take j ++ d :: ds.drop j)).set j (.ow d))) fun r => bnd (endOf r.1) fun t => bnd (ownG r.2[j]?) fun d' => .ok (t, d') := by
  unfold mkFnR; rw [if_pos ⟨hp, hj⟩]
  show bnd (a _) _ = _
  refine bnd_fun fun r => ?_; obtain ⟨o, ρ⟩ := r
  show bnd (endOf o) _ = _
  refine bnd_fun fun t => ?_
  dsimp only
  split
  · rename_i q; rw [q]; rfl
  · rename_i q
    cases q2 : ρ[j]? with
    | none => rfl
    | some u => cases u with
      | ow d => exact absurd q2 (q d)
      | _ => rfl
def objE : Rv × D → R Rv
  | ((.non, false), d) => .ok (d, false)
  | _ => .no
theorem objE_go : objE ((.non, false), d) = .ok (d, false) := rfl
theorem obj_eq {G : FnR} : mkObj c G ds = bnd (G ds (.ins c [])) objE := by
  show bnd (G ds (.ins c [])) _ = _
  refine bnd_fun fun r => ?_; obtain ⟨⟨x, k⟩, d⟩ := r
  cases x <;> cases k <;> rfl
/-! what is walked -/
theorem ev_iv : iVal e ρ = bnd (e ρ) fun r => bnd (items r.1.1) fun ds => .ok (ds, r.2) := by unfold iVal; simp only [val_bnd]; rfl
theorem items_lst : items (.lst ds) = .ok ds := rfl
theorem items_tup : items (.tup ds) = .ok ds := rfl
theorem items_str {s : List Nat} : items (.str s) = .ok (s.map fun c => .str [c]) := rfl
def rngG : List D → Env → R (List D × Env)
  | [.int j], ρ1 => if -(2 ^ 62) ≤ j ∧ j < 2 ^ 62 then .ok (rng 0 j.toNat, ρ1) else .no
  | [.int i, .int j], ρ1 => if (-(2 ^ 62) ≤ i ∧ i < 2 ^ 62) ∧ -(2 ^ 62) ≤ j ∧ j < 2 ^ 62 then .ok (rng i (j - i).toNat, ρ1) else .no
  | _, _ => .no
theorem ev_range {as : List Ev} : iRange as ρ = bnd (evs as ρ) fun r => rngG r.1 r.2 := by
  show bnd (evs as ρ) _ = _
  refine bnd_fun fun r => ?_; obtain ⟨xs, ρ1⟩ := r
  match xs with
  | [] => rfl
  | [x] => cases x <;> rfl
  | [x, y] => cases x <;> cases y <;> rfl
  | x :: y :: z :: l => cases x <;> cases y <;> rfl
theorem rngG_1 {j : Int} (h1 : -(2 ^ 62) ≤ j) (h2 : j < 2 ^ 62) : rngG [.int j] ρ = .ok (rng 0 j.toNat, ρ) := by simp only [rngG, if_pos (And.intro h1 h2)]
theorem rngG_2 {i j : Int} (h1 : -(2 ^ 62) ≤ i) (h2 : i < 2 ^ 62) (h3 : -(2 ^ 62) ≤ j) (h4 : j < 2 ^ 62) : rngG [.int i, .int j] ρ = .ok (rng i (j - i).toNat, ρ) := by simp only [rngG, if_pos (And.intro (And.intro h1 h2) (And.intro h3 h4))]
/-! loops -/
def forE (f : Env → R (Out × Env)) : Out → Env → R (Out × Env)
  | .nx, ρ => f ρ
  | .ct, ρ => f ρ
  | .bk, ρ => .ok (.nx, ρ)
  | .rt r, ρ => .ok (.rt r, ρ)
theorem for_s : forGo g a (d :: ds) ρ = bnd (g d ρ) fun ρ1 => bnd (a ρ1) fun r => forE (forGo g a ds) r.1 r.2 := by
  show bnd (g d ρ) (fun ρ1 => bnd (a ρ1) _) = _
  refine bnd_fun fun ρ1 => ?_; refine bnd_fun fun r => ?_; obtain ⟨o, ρ2⟩ := r; cases o <;> rfl
/-- behind a round of a loop with the invariant I; P: what is wanted of the way out -/
def LoopK (I : Env → Prop) (X : Out × Env → Prop) (x : Out × Env) : Prop := match x.1 with
  | .nx => I x.2
  | .ct => I x.2
  | .bk => X (.nx, x.2)
  | .rt r => X (.rt r, x.2)
theorem LK_nx {I : Env → Prop} {X : Out × Env → Prop} : LoopK I X (.nx, ρ) = I ρ := rfl
theorem wp_for {α : Type} {mk : α → D} {xs : List α} {γ : Type} {k : Out × Env → R γ} {P : γ → Prop} (I : Nat → Env → Prop) (h0 : I 0 ρ) (hs : ∀ n x ρ, xs[n]? = some x → I n ρ → Wn (bnd (g (mk x) ρ) a) (LoopK (I (n + 1)) fun y => Wn (k y) P)) (he : ∀ ρ, I xs.length ρ → Wn (k (.nx, ρ)) P) : Wn (bnd (forGo g a (xs.map mk) ρ) k) P := by
  have go : ∀ (ys : List α) (n : Nat) (ρ : Env), (∀ i, ys[i]? = xs[n + i]?) → n + ys.length = xs.length → I n ρ → Wn (bnd (forGo g a (ys.map mk) ρ) k) P := fun ys => by
    induction ys with
    | nil => intro n ρ hy hl h; exact he ρ (by rw [← hl]; exact h)
    | cons y ys ih =>
      intro n ρ hy hl h
      have st := hs n y ρ (by have := hy 0; rw [Nat.add_zero] at this; rw [← this]; rfl) h
      have nxt : ∀ ρ2, I (n + 1) ρ2 → Wn (bnd (forGo g a (ys.map mk) ρ2) k) P := fun ρ2 => ih (n + 1) ρ2 (fun i => by have := hy (i + 1); rw [show n + (i + 1) = n + 1 + i by omega] at this; rw [← this]; rfl) (by rw [List.length_cons] at hl; omega)
      rw [List.map_cons, for_s, bnd_bnd]
      have : (fun x => bnd (bnd (a x) fun r => forE (forGo g a (ys.map mk)) r.1 r.2) k) = fun x => bnd (a x) fun r => bnd (forE (forGo g a (ys.map mk)) r.1 r.2) k := by funext x; rw [bnd_bnd]
      rw [this, ← bnd_bnd]
      refine wp_use st fun x hx => ?_
      obtain ⟨o, ρ2⟩ := x
      cases o with
      | nx => exact nxt _ hx
      | ct => exact nxt _ hx
      | bk => exact hx
      | rt r => exact hx
  exact go xs 0 ρ (fun i => by rw [Nat.zero_add]) (by rw [Nat.zero_add]) h0
/-- the same over data -/
theorem wp_forD {γ : Type} {k : Out × Env → R γ} {P : γ → Prop} (I : Nat → Env → Prop) (h0 : I 0 ρ) (hs : ∀ n x ρ, ds[n]? = some x → I n ρ → Wn (bnd (g x ρ) a) (LoopK (I (n + 1)) fun y => Wn (k y) P)) (he : ∀ ρ, I ds.length ρ → Wn (k (.nx, ρ)) P) : Wn (bnd (forGo g a ds ρ) k) P := by
  have := wp_for (mk := id) (xs := ds) (ρ := ρ) (g := g) (a := a) (k := k) (P := P) I h0 hs he
  rwa [List.map_id] at this
/-! comprehensions -/
def cndO : Option Ev → Env → R (D × Env)
  | none, ρ => .ok (.bl true, ρ)
  | some t, ρ => bnd (t ρ) fun r => .ok (r.1.1, r.2)
theorem cndO_none : cndO none ρ = .ok (.bl true, ρ) := rfl
theorem cndO_some : cndO (some t) ρ = bnd (t ρ) fun r => .ok (r.1.1, r.2) := rfl
def lcS (g : Tg) (c : Option Ev) (e : Ev) (vs : List Nat) (ds : List D) (ρ1 : Env) : R (Rv × Env) := if noOw ρ1 vs && decide (ds.length ≤ 1000) then do
    let (acc, ρ2) ← lcGo g c e vs ds [] ρ1
    pure ((.lst acc, true), backS ρ1 ρ2 vs)
  else .no
theorem ev_lc {c : Option Ev} {vs : List Nat} : eLc it g c e vs ρ = bnd (it ρ) fun r => lcS g c e vs r.1 r.2 := rfl
theorem lcGo_s {c : Option Ev} {vs : List Nat} {acc : List D} : lcGo g c e vs (d :: ds) acc ρ = bnd (g d (wipeS ρ vs)) fun ρ1 => bnd (cndO c ρ1) fun s => cnd s.1 (bnd (e s.2) fun y => lcGo g c e vs ds (acc ++ [y.1.1]) y.2) (lcGo g c e vs ds acc s.2) := by
  show bnd (g d (wipeS ρ vs)) _ = _
  refine bnd_fun fun ρ1 => ?_
  cases c with
  | none => show bnd (val e ρ1) _ = bnd (e ρ1) _; exact val_bnd
  | some t =>
    show bnd (val t ρ1 >>= fun p => isB p.1 >>= fun b => .ok (b, p.2)) _ = _
    rw [val_bnd, bnd_bnd]
    show _ = bnd (bnd (t ρ1) _) _
    rw [bnd_bnd]
    refine bnd_fun fun r => ?_; obtain ⟨⟨x, k⟩, ρ2⟩ := r
    cases x with
    | bl c => cases c with
      | false => rfl
      | true => show bnd (val e ρ2) _ = bnd (e ρ2) _; exact val_bnd
    | _ => rfl
/-- with an invariant over what is made so far -/
theorem wp_lc {α : Type} {mk : α → D} {xs : List α} {c : Option Ev} {vs : List Nat} {γ : Type} {k : Rv × Env → R γ} {P : γ → Prop} (I : Nat → List D → Env → Prop) (hn : noOw ρ vs = true) (hl : xs.length ≤ 1000) (h0 : I 0 [] ρ) (hs : ∀ n x acc ρ, xs[n]? = some x → I n acc ρ → Wn (bnd (g (mk x) (wipeS ρ vs)) fun ρ1 => bnd (cndO c ρ1) fun s => cnd s.1 (bnd (e s.2) fun y => .ok (acc ++ [y.1.1], y.2)) (.ok (acc, s.2))) fun y => I (n + 1) y.1 y.2) (he : ∀ acc ρ', I xs.length acc ρ' → Wn (k ((.lst acc, true), backS ρ ρ' vs)) P) : Wn (bnd (lcS g c e vs (xs.map mk) ρ) k) P := by
  have go : ∀ (ys : List α) (n : Nat) (acc : List D) (ρ' : Env), (∀ i, ys[i]? = xs[n + i]?) → n + ys.length = xs.length → I n acc ρ' → Wn (bnd (lcGo g c e vs (ys.map mk) acc ρ') fun r => k ((.lst r.1, true), backS ρ r.2 vs)) P := fun ys => by
    induction ys with
    | nil => intro n acc ρ hy hl h; exact he acc ρ (by rw [← hl]; exact h)
    | cons y ys ih =>
      intro n acc ρ' hy hl h
      have st := hs n y acc ρ' (by have := hy 0; rw [Nat.add_zero] at this; rw [← this]; rfl) h
      have nxt := fun acc ρ2 => ih (n + 1) acc ρ2 (fun i => by have := hy (i + 1); rw [show n + (i + 1) = n + 1 + i by omega] at this; rw [← this]; rfl) (by rw [List.length_cons] at hl; omega)
      have e1 : lcGo g c e vs (mk y :: ys.map mk) acc ρ' = bnd (bnd (g (mk y) (wipeS ρ' vs)) fun ρ1 => bnd (cndO c ρ1) fun s => cnd s.1 (bnd (e s.2) fun y => .ok (acc ++ [y.1.1], y.2)) (.ok (acc, s.2))) fun r => lcGo g c e vs (ys.map mk) r.1 r.2 := by
        rw [lcGo_s, bnd_bnd]; refine bnd_fun fun ρ1 => ?_; rw [bnd_bnd]; refine bnd_fun fun s => ?_
        obtain ⟨s1, s2⟩ := s
        cases s1 with
        | bl b => cases b with
          | false => rfl
          | true => show bnd (e s2) _ = bnd (bnd (e s2) _) _; rw [bnd_bnd]; rfl
        | _ => rfl
      rw [List.map_cons, e1, bnd_bnd]
      exact wp_use st fun x hx => nxt _ _ hx
  have e0 : lcS g c e vs (xs.map mk) ρ = bnd (lcGo g c e vs (xs.map mk) [] ρ) fun r => .ok ((.lst r.1, true), backS ρ r.2 vs) := by
    unfold lcS
    rw [hn, List.length_map, decide_eq_true hl]; rfl
  rw [e0, bnd_bnd]
  exact go xs 0 [] ρ (fun i => by rw [Nat.zero_add]) (by rw [Nat.zero_add]) h0
/-- each element is a function of what is walked; the slots stay -/
theorem lc_eq {α : Type} {mk : α → D} {xs : List α} {c : Option Ev} {vs : List Nat} (f : α → Option D) (hn : noOw ρ vs = true) (hl : xs.length ≤ 1000)
    (hs : ∀ x ∈ xs, ∃ ρ', (bnd (g (mk x) (wipeS ρ vs)) fun ρ1 => bnd (cndO c ρ1) fun s => cnd s.1 (bnd (e s.2) fun y => .ok (some y.1.1, y.2)) (.ok (none, s.2))) = .ok (f x, ρ') ∧ wipeS ρ' vs = wipeS ρ vs ∧ backS ρ ρ' vs = ρ) (hb : backS ρ ρ vs = ρ := by rfl) : lcS g c e vs (xs.map mk) ρ = .ok ((.lst (xs.filterMap f), true), ρ) := by
  refine Wn.eq (m := lcS g c e vs (xs.map mk) ρ) ?_
  have : lcS g c e vs (xs.map mk) ρ = bnd (lcS g c e vs (xs.map mk) ρ) .ok := by cases lcS g c e vs (xs.map mk) ρ <;> rfl
  rw [this]
  refine wp_lc (fun n acc ρ' => acc = (xs.take n).filterMap f ∧ wipeS ρ' vs = wipeS ρ vs ∧ backS ρ ρ' vs = ρ) hn hl ⟨by simp, rfl, hb⟩ (fun n x acc ρ' hx h => ?_) fun acc ρ' h => ?_
  · obtain ⟨rfl, h1, h2⟩ := h
    have mem := List.mem_of_getElem? hx
    obtain ⟨ρ2, e2, h3, h4⟩ := hs x mem
    have tk : xs.take (n + 1) = xs.take n ++ [x] := by rw [List.take_add_one, hx]; rfl
    rw [h1]
    have key : (bnd (g (mk x) (wipeS ρ vs)) fun ρ1 => bnd (cndO c ρ1) fun s => cnd s.1 (bnd (e s.2) fun y => .ok ((xs.take n).filterMap f ++ [y.1.1], y.2)) (.ok ((xs.take n).filterMap f, s.2))) = bnd (bnd (g (mk x) (wipeS ρ vs)) fun ρ1 => bnd (cndO c ρ1) fun s => cnd s.1 (bnd (e s.2) fun y => .ok (some y.1.1, y.2)) (.ok (none, s.2))) fun r => .ok ((xs.take n).filterMap f ++ r.1.toList, r.2) := by
      rw [bnd_bnd]; refine bnd_fun fun ρ1 => ?_; rw [bnd_bnd]; refine bnd_fun fun s => ?_
      obtain ⟨s1, s2⟩ := s
      cases s1 with
      | bl b => cases b with
        | false => show R.ok _ = R.ok _; simp
        | true => show bnd (e s2) _ = bnd (bnd (e s2) _) _; rw [bnd_bnd]; rfl
      | _ => rfl
    rw [key, e2]
    refine ⟨_, rfl, ?_, h3, h4⟩
    rw [tk, List.filterMap_append, List.filterMap_cons]
    cases f x <;> simp
  · obtain ⟨rfl, h1, h2⟩ := h
    exact ⟨_, rfl, by rw [h2, List.take_length]⟩
end
end DY

set_option Elab.async false
set_option linter.all false
set_option maxRecDepth 100000
set_option maxHeartbeats 4000000
namespace DY
/-! ### operations, as rewriting -/
section
variable {own : D → D → R Rv} {own1 : D → R Rv} {i j : Int} {a b : List Nat} {xs ys : List D} {x y z d : D} {c c' : Nat} {fs fs' : List D} {p q : Bool} {kvs : List (Ky × D)} {kvt : List (List Ky × D)} {f h : D → D → R Rv} {t : BT}
theorem add_i : addD own (.int i) (.int j) = .ok (.int (i + j), false) := rfl
theorem add_l (h : xs.length + ys.length ≤ 1000) : addD own (.lst xs) (.lst ys) = .ok (.lst (xs ++ ys), true) := by simp only [addD, if_pos h]
theorem sub_i : subD own (.int i) (.int j) = .ok (.int (i - j), false) := rfl
theorem mul_i (h : mulOk i j = true) : mulD own (.int i) (.int j) = .ok (.int (i * j), false) := by simp only [mulD, if_pos h]; rfl
theorem fdiv_i (h : divOk j = true) : fdivD (.int i) (.int j) = .ok (.int (i.fdiv j), false) := by simp only [fdivD, if_pos h]; rfl
theorem mod_i (h : j ≠ 0) : modD (.int i) (.int j) = .ok (.int (i.fmod j), false) := by simp only [modD, if_neg h]; rfl
theorem pow_i (h1 : 0 ≤ j) (h2 : j ≤ 1000) (h3 : i.natAbs < 18446744073709551616) : powD (.int i) (.int j) = .ok (.int (i ^ j.toNat), false) := by simp only [powD, if_pos (And.intro h1 (And.intro h2 h3))]; rfl
theorem neg_i : negD own1 (.int i) = .ok (.int (-i), false) := rfl
theorem mulOk_n (h1 : i.natAbs ≤ 2 ^ 200) (h2 : j.natAbs ≤ 2 ^ 200) : mulOk i j = true := mulOk_b (by omega) (by omega) (by omega) (by omega)
theorem lt_i : ltD (.int i) (.int j) = .ok (.bl (decide (i < j)), false) := rfl
theorem lt_s : ltD (.str a) (.str b) = .ok (.bl (ltN a b), false) := rfl
theorem le_i : leD (.int i) (.int j) = .ok (.bl (decide (i ≤ j)), false) := rfl
theorem le_s : leD (.str a) (.str b) = .ok (.bl (!ltN b a), false) := rfl
theorem gt_i : gtD (.int i) (.int j) = .ok (.bl (decide (j < i)), false) := rfl
theorem ge_i : geD (.int i) (.int j) = .ok (.bl (decide (j ≤ i)), false) := rfl
theorem eq_i : eqD own (.int i) (.int j) = .ok (.bl (decide (i = j)), false) := rfl
theorem eq_s : eqD own (.str a) (.str b) = .ok (.bl (decide (a = b)), false) := rfl
theorem ne_i : neD own (.int i) (.int j) = .ok (.bl (!decide (i = j)), false) := rfl
theorem ne_o : neD own (.ins c fs) y = bnd (own (.ins c fs) y) fun r => notR r.1 := by
  have : neD own (.ins c fs) y = (own (.ins c fs) y >>= fun r => isB r.1 >>= fun b => bl_ (!b)) := by cases y <;> rfl
  rw [this]
  show bnd (own (.ins c fs) y) _ = _
  refine bnd_fun fun r => ?_; obtain ⟨d, k⟩ := r; cases d <;> rfl
theorem eqv_s : eqv (.str a) (.str b) = decide (a = b) := by unfold eqv; rw [Bool.eq_iff_iff]; simp
theorem eq_g (hx : dok dep x = true) (hy : dok dep y = true) : eqD own x y = .ok (.bl (eqv x y), false) := by
  have : eqG own x y = .ok (.bl (eqv x y), false) := by unfold eqG; rw [hx, hy]; rfl
  cases x <;> cases y <;> first | exact this | rfl | (rw [eqv_s]; rfl)
theorem ne_g (hx : dok dep x = true) (hy : dok dep y = true) : neD own x y = .ok (.bl (!eqv x y), false) := by
  have : neG own x y = .ok (.bl (!eqv x y), false) := by unfold neG; rw [hx, hy]; rfl
  cases x <;> cases y <;> first | exact this | rfl | (rw [eqv_s]; rfl)
theorem isN_i : isN (.int i) .non = .ok (.bl false, false) := rfl
/-! own operators -/
theorem sel_t {g : D → D → Bool} (hg : g x y = true) : sel g f h x y = f x y := by unfold sel; rw [hg]; rfl
/-! in -/
theorem in_c {n : Nat} : inD (.str [n]) (.str a) = .ok (.bl (decide (n ∈ a)), false) := rfl
theorem in_t (h : (flat x && xs.all flat) = true) : inD x (.tup xs) = .ok (.bl (xs.any fun z => eqv z x), false) := by
  unfold inD inB
  cases x <;> first | (simp only [h, if_true]; rfl) | (cases h; done)
theorem nin_t (h : (flat x && xs.all flat) = true) : ninD x (.tup xs) = .ok (.bl (!(xs.any fun z => eqv z x)), false) := by
  unfold ninD inB
  cases x <;> first | (simp only [h, if_true]; rfl) | (cases h; done)
theorem nin_l (h : (dok dep x && doks dep xs) = true) : ninD x (.lst xs) = .ok (.bl (!(xs.any fun z => eqv z x)), false) := by
  unfold ninD inB
  cases x <;> first | (simp only [h, if_true]; rfl) | (cases h; done)
/-! x[i] -/
theorem opt_s : opt (some d) = .ok (d, false) := rfl
theorem ixt_0 : ixD (.tup (x :: xs)) (.int 0) = .ok (x, false) := by show opt (atI (x :: xs) 0) = _; simp [atI, ixN, opt]
theorem ixt_1 : ixD (.tup (x :: y :: xs)) (.int 1) = .ok (y, false) := by show opt (atI (x :: y :: xs) 1) = _; simp [atI, ixN, opt]; rw [if_pos (by omega)]; rfl
theorem ixt_2 : ixD (.tup (x :: y :: z :: xs)) (.int 2) = .ok (z, false) := by show opt (atI (x :: y :: z :: xs) 2) = _; simp [atI, ixN, opt]; rw [if_pos (by omega)]; rfl
theorem ixl_0 : ixD (.lst (x :: xs)) (.int 0) = .ok (x, false) := by show opt (atI (x :: xs) 0) = _; simp [atI, ixN, opt]
theorem ixl_1 : ixD (.lst (x :: y :: xs)) (.int 1) = .ok (y, false) := by show opt (atI (x :: y :: xs) 1) = _; simp [atI, ixN, opt]; rw [if_pos (by omega)]; rfl
theorem ixl_2 : ixD (.lst (x :: y :: z :: xs)) (.int 2) = .ok (z, false) := by show opt (atI (x :: y :: z :: xs) 2) = _; simp [atI, ixN, opt]; rw [if_pos (by omega)]; rfl
theorem ix_l (h0 : 0 ≤ i) (h1 : i < xs.length) : ixD (.lst xs) (.int i) = .ok (xs[i.toNat]'(by omega), false) := by
  obtain ⟨d, e1, e2⟩ := at_ok h0 h1
  show opt (atI xs i) = _
  rw [e2, List.getElem?_eq_getElem (by omega)] at *
  cases e1; rfl
theorem ix_f (h0 : 0 ≤ i) (h1 : i < xs.length) : ixD (.fls xs) (.int i) = .ok (xs[i.toNat]'(by omega), false) := by
  obtain ⟨d, e1, e2⟩ := at_ok h0 h1
  show opt (atI xs i) = _
  rw [e2, List.getElem?_eq_getElem (by omega)] at *
  cases e1; rfl
theorem sl_f {lo hi : Option Int} : sliceD lo hi (.fls xs) = .ok (.lst (cut xs lo hi), true) := rfl
theorem sl_t {lo hi : Option Int} : sliceD lo hi (.tup xs) = .ok (.tup (cut xs lo hi), false) := rfl
/-! built-ins -/
theorem len_l : lenB own1 (.lst xs) = .ok (.int xs.length, false) := rfl
theorem len_f : lenB own1 (.fls xs) = .ok (.int xs.length, false) := rfl
theorem len_t : lenB own1 (.tup xs) = .ok (.int xs.length, false) := rfl
theorem len_s (h : a.length ≤ 100000) : lenB own1 (.str a) = .ok (.int a.length, false) := by simp only [lenB, if_pos h]; rfl
theorem isi_int_i : isiD [.int i, .ty .int] = .ok (.bl true, false) := rfl
theorem isi_bool_i : isiD [.int i, .ty .bool] = .ok (.bl false, false) := rfl
theorem isi_str_s : isiD [.str a, .ty .str] = .ok (.bl true, false) := rfl
theorem isi_tup_t : isiD [.tup xs, .ty .tuple] = .ok (.bl true, false) := rfl
theorem isi_o : isiD [.ins c fs, .cls c'] = .ok (.bl (decide (c = c')), false) := rfl
theorem abs_i : absD [.int i] = .ok (.int (if i < 0 then -i else i), false) := rfl
theorem int_i : intD [.int i] = .ok (.int i, false) := rfl
theorem max_i : maxD [.int i, .int j] = .ok (.int (max i j), false) := by
  have : (if j > i then j else i) = max i j := by rw [Int.max_def]; split <;> split <;> omega
  rw [← this]; rfl
theorem min_i : minD [.int i, .int j] = .ok (.int (min i j), false) := by
  have : (if j < i then j else i) = min i j := by rw [Int.min_def]; split <;> split <;> omega
  rw [← this]; rfl
theorem bools_map (l : List Bool) : boolsOf (l.map D.bl) = .ok l := by
  induction l with
  | nil => rfl
  | cons b l ih => rw [List.map_cons, boolsOf, ih]; rfl
theorem strs_map (l : List (List Nat)) : strsOf (l.map D.str) = .ok l := by
  induction l with
  | nil => rfl
  | cons b l ih => rw [List.map_cons, strsOf, ih]; rfl
theorem all_m {l : List Bool} : allD [.lst (l.map D.bl)] = .ok (.bl (l.all id), false) := by
  show (boolsOf (l.map D.bl) >>= fun bs => bl_ (bs.all id)) = _; rw [bools_map]; rfl
theorem mkTup_e (h : xs.length ≤ 1000) : mkTup xs = .ok (.tup xs, false) := by unfold mkTup; rw [if_pos h]
theorem mkKey_e (h : xs.length ≤ 1000) : mkKey xs = .ok (.kt xs, false) := by unfold mkKey; rw [if_pos h]
theorem mkLst_e (h : xs.length ≤ 1000) : mkLst xs = .ok (.lst xs, true) := by unfold mkLst; rw [if_pos h]
theorem app_e (h : xs.length < 1000) : appendM (.lst xs) [y] = .ok (.non, .lst (xs ++ [y])) := by simp only [appendM, if_pos h]
theorem put_l0 : putM (.lst (x :: xs)) (.int 0) y = .ok (.lst (y :: xs)) := by simp [putM, ixN]
theorem put_l1 : putM (.lst (x :: z :: xs)) (.int 1) y = .ok (.lst (x :: y :: xs)) := by simp [putM, ixN]; rw [if_pos (by omega)]; rfl
theorem put_l2 {w : D} : putM (.lst (x :: z :: w :: xs)) (.int 2) y = .ok (.lst (x :: z :: y :: xs)) := by simp [putM, ixN]; rw [if_pos (by omega)]; rfl
theorem fld_0 : fldD c 0 (.ins c (x :: fs)) = .ok (x, false) := by simp [fldD, opt]
theorem fld_1 : fldD c 1 (.ins c (x :: y :: fs)) = .ok (y, false) := by simp [fldD, opt]
theorem fld_2 : fldD c 2 (.ins c (x :: y :: z :: fs)) = .ok (z, false) := by simp [fldD, opt]
theorem fld_3 {x1 : D} : fldD c 3 (.ins c (x :: y :: z :: x1 :: fs)) = .ok (x1, false) := by simp [fldD, opt]
end
end DY
namespace DY
theorem ix_s {i : Int} {a : List Nat} (hz : a.length ≤ 100000) (h0 : 0 ≤ i) (h1 : i < a.length) : ixD (.str a) (.int i) = .ok (.str [a[i.toNat]'(by omega)], false) := by
  have hl : i.toNat < a.length := by omega
  show (if a.length ≤ 100000 then opt ((atI a i).map fun c => .str [c]) else .no) = _
  rw [if_pos hz]
  unfold atI ixN
  rw [if_pos h0, if_pos h1]
  show opt ((a[i.toNat]?).map fun c => .str [c]) = _
  rw [List.getElem?_eq_getElem hl]; rfl
end DY
namespace DY
theorem wipe_0 {ρ : Env} : wipeS ρ [] = ρ := rfl
theorem wipe_s {ρ : Env} {i : Nat} {is : List Nat} : wipeS ρ (i :: is) = (wipeS ρ is).set i .un := rfl
end DY
namespace DY
section
variable {ρ : Env} {ek ev : Ev} {g : Tg} {it : Iv} {d : D} {ds : List D}
end
end DY
namespace DY
section
variable {ρ ρ0 : Env} {e : Ev} {g : Tg} {d : D} {ds acc : List D} {c : Option Ev} {i : Nat} {is vs : List Nat} {s : Slot}
def okS : Option Slot → Bool
  | some (.ow _) => false
  | some _ => true
  | none => false
/-- a slot that holds no object -/
def unS : Option D → Slot
  | none => .un
  | some d => .sh d
theorem okS_un : okS (some .un) = true := rfl
theorem okS_sh : okS (some (.sh d)) = true := rfl
theorem okS_us {k : Option D} : okS (some (unS k)) = true := by cases k <;> rfl
theorem noOw_0 : noOw ρ [] = true := rfl
theorem noOw_s : noOw ρ (i :: is) = (okS ρ[i]? && noOw ρ is) := by
  unfold noOw
  rw [List.all_cons]
  cases ρ[i]? with
  | none => rfl
  | some s => cases s <;> rfl
theorem back_0 : backS ρ0 ρ [] = ρ := rfl
theorem back_s : backS ρ0 ρ (i :: is) = (backS ρ0 ρ is).set i (ρ0.getD i .un) := rfl
theorem getD_0 {t : Slot} : (s :: ρ).getD 0 t = s := rfl
theorem getD_s {t : Slot} : (s :: ρ).getD (i + 1) t = ρ.getD i t := by simp [List.getD]
end
end DY

set_option Elab.async false
set_option linter.all false
set_option maxRecDepth 100000
namespace DY
/-! ### ties: walks and their weights -/
abbrev Wd := List Nat
abbrev Tie := Wd × Wd × Int
structure Gr (ps : List Wd) (ts : List Tie) : Prop where
  nd : ps.Nodup
  fst : ∀ t ∈ ts, t.1 ∈ ps
  snd : ∀ t ∈ ts, t.2.1 ∈ ps
  pos : ∀ t ∈ ts, 0 ≤ t.2.2
def Ed (ts : List Tie) (a b : Wd) (r : Int) : Prop := (a, b, r) ∈ ts ∨ (b, a, r) ∈ ts
/-- a walk from p to q: its weight, the parts that it left, the last one first -/
inductive Wk (ts : List Tie) (p : Wd) : Wd → Int → List Wd → Prop
  | nil : Wk ts p p 0 []
  | cons {a b : Wd} {w r : Int} {vs : List Wd} : Wk ts p a w vs → Ed ts a b r → Wk ts p b (w + r) (a :: vs)
section
variable {ps : List Wd} {ts : List Tie} {p q a b : Wd} {w r : Int} {vs : List Wd}
theorem Ed.pos (g : Gr ps ts) (h : Ed ts a b r) : 0 ≤ r ∧ a ∈ ps ∧ b ∈ ps := by
  rcases h with h | h
  · exact ⟨g.pos _ h, g.fst _ h, g.snd _ h⟩
  · exact ⟨g.pos _ h, g.snd _ h, g.fst _ h⟩
theorem Wk.pos (g : Gr ps ts) (h : Wk ts p q w vs) : 0 ≤ w := by
  induction h with
  | nil => omega
  | cons _ e ih => have := (e.pos g).1; omega
theorem Wk.cut (g : Gr ps ts) (h : Wk ts p q w vs) (nd : (q :: vs).Nodup) (hb : b ∈ q :: vs) : ∃ w' vs', Wk ts p b w' vs' ∧ (b :: vs').Nodup ∧ w' ≤ w := by
  induction h with
  | nil =>
    rw [List.mem_singleton.mp hb]
    exact ⟨0, [], .nil, by simp, by omega⟩
  | @cons a c w r vs h e ih =>
    rcases List.mem_cons.mp hb with rfl | hb
    · exact ⟨_, _, .cons h e, nd, by omega⟩
    · obtain ⟨w', vs', h1, h2, h3⟩ := ih (List.nodup_cons.mp nd).2 hb
      have := (e.pos g).1
      exact ⟨w', vs', h1, h2, by omega⟩
theorem Wk.append {v : Int} {us : List Wd} (h : Wk ts p a w vs) (h' : Wk ts a q v us) : ∃ xs, Wk ts p q (w + v) xs := by
  induction h' with
  | nil => exact ⟨vs, by rw [Int.add_zero]; exact h⟩
  | cons _ e ih =>
    obtain ⟨xs, ih⟩ := ih
    exact ⟨_, by rw [← Int.add_assoc]; exact .cons ih e⟩
/-- distances: what walks there are, told by their least weights -/
structure Dist (ps : List Wd) (ts : List Tie) (d : Wd → Wd → Option Int) : Prop where
  sound : ∀ p ∈ ps, ∀ q ∈ ps, ∀ w, d p q = some w → ∃ vs, Wk ts p q w vs
  least : ∀ p ∈ ps, ∀ q w vs, Wk ts p q w vs → ∃ w', d p q = some w' ∧ w' ≤ w
/-! ### all middles: one behind the other -/
def mnO : Option Int → Option Int → Option Int
  | none, y => y
  | some x, none => some x
  | some x, some y => some (if y < x then y else x)
def plO : Option Int → Option Int → Option Int
  | some x, some y => some (x + y)
  | _, _ => none
/-- behind the middles M -/
structure Mid (ps : List Wd) (ts : List Tie) (M : List Wd) (d : Wd → Wd → Option Int) : Prop where
  refl : ∀ p ∈ ps, d p p = some 0
  sound : ∀ p ∈ ps, ∀ q ∈ ps, ∀ w, d p q = some w → ∃ vs, Wk ts p q w vs
  edge : ∀ a b r, Ed ts a b r → ∃ w, d a b = some w ∧ w ≤ r
  tri : ∀ m ∈ M, ∀ p ∈ ps, ∀ q ∈ ps, ∀ x y, d p m = some x → d m q = some y → ∃ z, d p q = some z ∧ z ≤ x + y
theorem Mid.dist (g : Gr ps ts) {d : Wd → Wd → Option Int} (h : Mid ps ts ps d) : Dist ps ts d := by
  refine ⟨h.sound, fun p hp q w vs k => ?_⟩
  induction k with
  | nil => exact ⟨0, h.refl p hp, by omega⟩
  | @cons a c w r vs k e ih =>
    obtain ⟨x, e1, l1⟩ := ih
    obtain ⟨y, e2, l2⟩ := h.edge a c r e
    have ep := e.pos g
    obtain ⟨z, e3, l3⟩ := h.tri a ep.2.1 p hp c ep.2.2 x y e1 e2
    exact ⟨z, e3, by omega⟩
theorem Mid.step (g : Gr ps ts) {M : List Wd} {m : Wd} {d d' : Wd → Wd → Option Int} (h : Mid ps ts M d) (hm : m ∈ ps) (hM : ∀ x ∈ M, x ∈ ps) (e : ∀ p ∈ ps, ∀ q ∈ ps, d' p q = mnO (d p q) (plO (d p m) (d m q))) : Mid ps ts (M ++ [m]) d' := by
  have nn : ∀ p ∈ ps, ∀ q ∈ ps, ∀ w, d p q = some w → 0 ≤ w := fun p hp q hq w z => by
    obtain ⟨vs, k⟩ := h.sound p hp q hq w z
    exact k.pos g
  have le : ∀ p ∈ ps, ∀ q ∈ ps, ∀ w, d p q = some w → ∃ w', d' p q = some w' ∧ w' ≤ w := fun p hp q hq w z => by
    rw [e p hp q hq, z]
    cases plO (d p m) (d m q) with
    | none => exact ⟨w, rfl, by omega⟩
    | some y => exact ⟨_, rfl, by split <;> omega⟩
  have le2 : ∀ p ∈ ps, ∀ q ∈ ps, ∀ x y, d p m = some x → d m q = some y → ∃ w', d' p q = some w' ∧ w' ≤ x + y := fun p hp q hq x y zx zy => by
    rw [e p hp q hq, zx, zy]
    cases d p q with
    | none => exact ⟨x + y, rfl, by omega⟩
    | some z => exact ⟨_, rfl, by show (if x + y < z then x + y else z) ≤ x + y; split <;> omega⟩
  have inv : ∀ p ∈ ps, ∀ q ∈ ps, ∀ w, d' p q = some w → d p q = some w ∨ ∃ x y, d p m = some x ∧ d m q = some y ∧ w = x + y := fun p hp q hq w z => by
    rw [e p hp q hq] at z
    cases z1 : d p q with
    | none =>
      rw [z1] at z
      cases z2 : d p m with
      | none => rw [z2] at z; cases z
      | some x =>
        cases z3 : d m q with
        | none => rw [z2, z3] at z; cases z
        | some y => rw [z2, z3] at z; cases z; exact .inr ⟨x, y, rfl, rfl, rfl⟩
    | some v =>
      rw [z1] at z
      cases z2 : d p m with
      | none => rw [z2] at z; cases z; exact .inl rfl
      | some x =>
        cases z3 : d m q with
        | none => rw [z2, z3] at z; cases z; exact .inl rfl
        | some y =>
          rw [z2, z3] at z
          have z : some (if x + y < v then x + y else v) = some w := z
          split at z
          · cases z; exact .inr ⟨x, y, rfl, rfl, rfl⟩
          · cases z; exact .inl rfl
  have dm := h.refl m hm
  refine ⟨fun p hp => ?_, fun p hp q hq w z => ?_, fun a b r ed => ?_, fun k hk p hp q hq x y zx zy => ?_⟩
  · obtain ⟨w, z, l⟩ := le p hp p hp 0 (h.refl p hp)
    rcases inv p hp p hp w z with z' | ⟨x, y, zx, zy, rfl⟩
    · rw [h.refl p hp] at z'; cases z'; exact z
    · have := nn p hp m hm x zx
      have := nn m hm p hp y zy
      rw [z, show x + y = 0 by omega]
  · rcases inv p hp q hq w z with z' | ⟨x, y, zx, zy, rfl⟩
    · exact h.sound p hp q hq w z'
    · obtain ⟨_, k1⟩ := h.sound p hp m hm x zx
      obtain ⟨_, k2⟩ := h.sound m hm q hq y zy
      exact k1.append k2
  · obtain ⟨w, z, l⟩ := h.edge a b r ed
    have ep := ed.pos g
    obtain ⟨w', z', l'⟩ := le a ep.2.1 b ep.2.2 w z
    exact ⟨w', z', by omega⟩
  · have hk' : k ∈ ps := by
      rcases List.mem_append.mp hk with hk | hk
      · exact hM k hk
      · rw [List.mem_singleton.mp hk]; exact hm
    -- a way to m and a way from m, of the old
    have low : ∀ s ∈ ps, ∀ t ∈ ps, ∀ v, d' s t = some v → d s t = some v ∨ ∃ x y, d s m = some x ∧ d m t = some y ∧ v = x + y := inv
    rcases List.mem_append.mp hk with hk | hk
    · rcases low p hp k hk' x zx with zx | ⟨x1, x2, a1, a2, rfl⟩
      · rcases low k hk' q hq y zy with zy | ⟨y1, y2, b1, b2, rfl⟩
        · obtain ⟨z, e1, l1⟩ := h.tri k hk p hp q hq x y zx zy
          obtain ⟨z', e2, l2⟩ := le p hp q hq z e1
          exact ⟨z', e2, by omega⟩
        · obtain ⟨z, e1, l1⟩ := h.tri k hk p hp m hm x y1 zx b1
          obtain ⟨z', e2, l2⟩ := le2 p hp q hq z y2 e1 b2
          exact ⟨z', e2, by omega⟩
      · have n2 := nn m hm k hk' x2 a2
        rcases low k hk' q hq y zy with zy | ⟨y1, y2, b1, b2, rfl⟩
        · obtain ⟨z, e1, l1⟩ := h.tri k hk m hm q hq x2 y a2 zy
          obtain ⟨z', e2, l2⟩ := le2 p hp q hq x1 z a1 e1
          exact ⟨z', e2, by omega⟩
        · have n1 := nn k hk' m hm y1 b1
          obtain ⟨z', e2, l2⟩ := le2 p hp q hq x1 y2 a1 b2
          exact ⟨z', e2, by omega⟩
    · have := List.mem_singleton.mp hk
      subst this
      have ex : ∃ x', d p k = some x' ∧ x' ≤ x := by
        rcases low p hp k hm x zx with zx | ⟨x1, x2, a1, a2, rfl⟩
        · exact ⟨x, zx, by omega⟩
        · rw [dm] at a2; cases a2; exact ⟨x1, a1, by omega⟩
      have ey : ∃ y', d k q = some y' ∧ y' ≤ y := by
        rcases low k hm q hq y zy with zy | ⟨x1, x2, a1, a2, rfl⟩
        · exact ⟨y, zy, by omega⟩
        · rw [dm] at a1; cases a1; exact ⟨x2, a2, by omega⟩
      obtain ⟨x', ex, lx⟩ := ex
      obtain ⟨y', ey, ly⟩ := ey
      obtain ⟨z', e2, l2⟩ := le2 p hp q hq x' y' ex ey
      exact ⟨z', e2, by omega⟩
end
end DY

set_option Elab.async false
set_option linter.all false
set_option maxRecDepth 100000
set_option maxHeartbeats 4000000
namespace DY
local instance : Tb := { T := [] }
/-! ### dicts by texts: the keys in order, the values a function of them -/
section
variable {ks : List Wd} {f : Wd → D} {k : Wd} {v : D}
end
section
variable {κ : Type} [DecidableEq κ] {kvs : List (κ × D)} {k k' : κ} {v : D}
theorem dget_put : dget (dput kvs k v) k' = if k' = k then some v else dget kvs k' := by
  have key : ∀ l : List (κ × D), (l.any fun kv => decide (kv.1 = k)) = true → dget (l.map fun kv => if kv.1 = k then (kv.1, v) else kv) k' = if k' = k then some v else dget l k' := fun l => by
    induction l with
    | nil => intro h; simp at h
    | cons x l ih =>
      intro h
      unfold dget
      rw [List.map_cons, List.find?_cons, List.find?_cons]
      by_cases hx : x.1 = k
      · rw [if_pos hx]
        dsimp only
        by_cases hk : k' = k
        · subst hk
          rw [hx, decide_eq_true rfl, if_pos rfl]; rfl
        · rw [if_neg hk]
          have : decide (x.1 = k') = false := decide_eq_false fun e => hk (by rw [← e, hx])
          rw [this]
          by_cases hl : (l.any fun kv => decide (kv.1 = k)) = true
          · have := ih hl
            rw [if_neg hk] at this
            exact this
          · have : (l.map fun kv => if kv.1 = k then (kv.1, v) else kv) = l := by
              conv => rhs; rw [← List.map_id l]
              refine List.map_congr_left fun y hy => ?_
              have : ¬ y.1 = k := fun e => hl (List.any_eq_true.mpr ⟨y, hy, decide_eq_true e⟩)
              rw [if_neg this]; rfl
            rw [this]
      · rw [if_neg hx]
        rw [List.any_cons, decide_eq_false hx, Bool.false_or] at h
        by_cases hk : x.1 = k'
        · rw [decide_eq_true hk]
          have : ¬ k' = k := fun e => hx (by rw [hk, e])
          rw [if_neg this]
        · rw [decide_eq_false hk]
          exact ih h
  unfold dput
  split
  · rename_i h; exact key kvs h
  · rename_i h
    unfold dget
    rw [List.find?_append]
    by_cases hk : k' = k
    · subst hk
      have : kvs.find? (fun kv => decide (kv.1 = k')) = none := by
        rw [List.find?_eq_none]
        intro x hx e
        exact h (List.any_eq_true.mpr ⟨x, hx, e⟩)
      rw [this, if_pos rfl]
      simp
    · rw [if_neg hk]
      have e : List.find? (fun kv : κ × D => decide (kv.1 = k')) [(k, v)] = none := by
        rw [List.find?_cons]
        dsimp only
        rw [decide_eq_false (fun z => hk z.symm)]
        rfl
      rw [e]; simp
theorem dput_le : (dput kvs k v).length ≤ kvs.length + 1 := dput_len kvs k v
end
/-! ### dicts by pairs of texts -/
def k2 (a b : Wd) : List Ky := [.inr a, .inr b]
theorem k2_inj {a b c d : Wd} : k2 a b = k2 c d ↔ a = c ∧ b = d := by
  unfold k2
  constructor
  · intro h; injection h with h1 h2; injection h2 with h2; injection h1 with h1; injection h2 with h2; exact ⟨h1, h2⟩
  · rintro ⟨rfl, rfl⟩; rfl
def DctOk (kvs : List (List Ky × D)) (d : Wd → Wd → Option Int) : Prop := ∀ a b, dget kvs (k2 a b) = (d a b).map D.int
def up2 {α : Type} (d : Wd → Wd → α) (p q : Wd) (v : α) : Wd → Wd → α := fun a b => if a = p ∧ b = q then v else d a b
theorem DctOk.put {kvs : List (List Ky × D)} {d : Wd → Wd → Option Int} (h : DctOk kvs d) (p q : Wd) (v : Int) : DctOk (dput kvs (k2 p q) (.int v)) (up2 d p q (some v)) := fun a b => by
  rw [dget_put]
  unfold up2
  by_cases e : a = p ∧ b = q
  · rw [if_pos e, if_pos (k2_inj.mpr e)]; rfl
  · rw [if_neg e, if_neg (fun z => e (k2_inj.mp z))]; exact h a b
section
variable {kvs : List (List Ky × D)} {a b : Wd} {z : D}
theorem in_k2 : inD (.kt [.str a, .str b]) (.dct kvs) = .ok (.bl (dget kvs (k2 a b)).isSome, false) := rfl
theorem nin_k2 : ninD (.kt [.str a, .str b]) (.dct kvs) = .ok (.bl (!(dget kvs (k2 a b)).isSome), false) := rfl
theorem ix_k2 : ixD (.dct kvs) (.kt [.str a, .str b]) = opt (dget kvs (k2 a b)) := rfl
theorem put_k2 {v : D} (h : kvs.length < 1000) : putM (.dct kvs) (.kt [.str a, .str b]) v = .ok (.dct (dput kvs (k2 a b) v)) := by
  show (if kvs.length < 1000 then R.ok (D.dct (dput kvs (k2 a b) v)) else .no) = _
  rw [if_pos h]
theorem keyT_k2 : keyT (.kt [.str a, .str b]) = .ok (k2 a b) := rfl
end
/-! ### the new readings, by rewriting -/
section
variable {ρ : Env} {e : Ev} {ds : List D} {i : Nat}
def enI (x : D) : R (List D) := bnd (items x) fun ds => .ok (enumL 0 ds)
theorem enI_t : enI (.tup ds) = .ok (enumL 0 ds) := rfl
theorem ev_en : iEn e ρ = bnd (e ρ) fun r => bnd (enI r.1.1) fun ds => .ok (ds, r.2) := by
  unfold iEn
  rw [val_bnd]
  refine bnd_fun fun r => ?_
  obtain ⟨⟨x, k⟩, ρ1⟩ := r
  cases x <;> rfl
theorem wp_forE {α : Type} {mk : α → D} {xs : List α} {g : Tg} {a : Sv} {γ : Type} {k : Out × Env → R γ} {P : γ → Prop} (I : Nat → Env → Prop) (h0 : I 0 ρ) (hs : ∀ n x ρ, xs[n]? = some x → I n ρ → Wn (bnd (g (.kt [.int (n : Nat), mk x]) ρ) a) (LoopK (I (n + 1)) fun y => Wn (k y) P)) (he : ∀ ρ, I xs.length ρ → Wn (k (.nx, ρ)) P) : Wn (bnd (forGo g a (enumL 0 (xs.map mk)) ρ) k) P := by
  refine wp_forD I h0 (fun n x ρ hx h => ?_) fun ρ h => he ρ (by rw [enumL_len, List.length_map] at h; exact h)
  have hn : n < xs.length := by
    have := (List.getElem?_eq_some_iff.mp hx).1
    rwa [enumL_len, List.length_map] at this
  have hg : (xs.map mk)[n]? = some (mk xs[n]) := by rw [List.getElem?_map, List.getElem?_eq_getElem hn]; rfl
  have := enumL_get (n := 0) hg
  rw [hx, Nat.zero_add] at this
  cases this
  exact hs n xs[n] ρ (List.getElem?_eq_getElem hn) h
/-! lending -/
end
/-! list of a text -/
section
variable {xs : List D} {ys : List Nat} {kvs : List (Ky × D)}
/-! pop at a place -/
end
/-! comprehensions with pairs as keys -/
section
variable {ρ : Env} {ek ev : Ev} {g : Tg} {it : Iv} {d : D} {ds : List D}
def dtS (g : Tg) (c : Option Ev) (ek ev : Ev) (vs : List Nat) (ds : List D) (ρ1 : Env) : R (Rv × Env) := if noOw ρ1 vs && decide (ds.length ≤ 1000) then do
    let (acc, ρ2) ← dtGo g c ek ev vs ds [] ρ1
    pure ((.dct acc, true), backS ρ1 ρ2 vs)
  else .no
theorem ev_dt {c : Option Ev} {vs : List Nat} : eDt it g c ek ev vs ρ = bnd (it ρ) fun r => dtS g c ek ev vs r.1 r.2 := rfl
theorem dtGo_s {vs : List Nat} {acc : List (List Ky × D)} : dtGo g none ek ev vs (d :: ds) acc ρ = bnd (g d (wipeS ρ vs)) fun ρ1 => bnd (ek ρ1) fun y => bnd (ev y.2) fun z => bnd (keyT y.1.1) fun q => dtGo g none ek ev vs ds (dput acc q z.1.1) z.2 := by
  show bnd (g d (wipeS ρ vs)) _ = _
  refine bnd_fun fun ρ1 => ?_
  show (val ek ρ1 >>= fun p => val ev p.2 >>= fun q => keyT p.1 >>= fun k => dtGo g none ek ev vs ds (dput acc k q.1) q.2) = _
  rw [val_bnd]
  refine bnd_fun fun y => ?_
  rw [val_bnd]; rfl
theorem wp_dt {α : Type} {mk : α → D} {xs : List α} {vs : List Nat} {γ : Type} {k : Rv × Env → R γ} {P : γ → Prop} (I : Nat → List (List Ky × D) → Env → Prop) (hn : noOw ρ vs = true) (hl : xs.length ≤ 1000) (h0 : I 0 [] ρ) (hs : ∀ n x acc ρ, xs[n]? = some x → I n acc ρ → Wn (bnd (g (mk x) (wipeS ρ vs)) fun ρ1 => bnd (ek ρ1) fun y => bnd (ev y.2) fun z => bnd (keyT y.1.1) fun q => .ok (dput acc q z.1.1, z.2)) fun y => I (n + 1) y.1 y.2) (he : ∀ acc ρ', I xs.length acc ρ' → Wn (k ((.dct acc, true), backS ρ ρ' vs)) P) : Wn (bnd (dtS g none ek ev vs (xs.map mk) ρ) k) P := by
  have go : ∀ (ys : List α) (n : Nat) (acc : List (List Ky × D)) (ρ' : Env), (∀ i, ys[i]? = xs[n + i]?) → n + ys.length = xs.length → I n acc ρ' → Wn (bnd (dtGo g none ek ev vs (ys.map mk) acc ρ') fun r => k ((.dct r.1, true), backS ρ r.2 vs)) P := fun ys => by
    induction ys with
    | nil => intro n acc ρ hy hl h; exact he acc ρ (by rw [← hl]; exact h)
    | cons y ys ih =>
      intro n acc ρ' hy hl h
      have st := hs n y acc ρ' (by have := hy 0; rw [Nat.add_zero] at this; rw [← this]; rfl) h
      have nxt := fun acc ρ2 => ih (n + 1) acc ρ2 (fun i => by have := hy (i + 1); rw [show n + (i + 1) = n + 1 + i by omega] at this; rw [← this]; rfl) (by rw [List.length_cons] at hl; omega)
      have e1 : dtGo g none ek ev vs (mk y :: ys.map mk) acc ρ' = bnd (bnd (g (mk y) (wipeS ρ' vs)) fun ρ1 => bnd (ek ρ1) fun y => bnd (ev y.2) fun z => bnd (keyT y.1.1) fun q => .ok (dput acc q z.1.1, z.2)) fun r => dtGo g none ek ev vs (ys.map mk) r.1 r.2 := by
        rw [dtGo_s, bnd_bnd]; refine bnd_fun fun ρ1 => ?_; rw [bnd_bnd]; refine bnd_fun fun y => ?_; rw [bnd_bnd]; refine bnd_fun fun z => ?_; rw [bnd_bnd]; rfl
      rw [List.map_cons, e1, bnd_bnd]
      exact wp_use st fun x hx => nxt _ _ hx
  have e0 : dtS g none ek ev vs (xs.map mk) ρ = bnd (dtGo g none ek ev vs (xs.map mk) [] ρ) fun r => .ok ((.dct r.1, true), backS ρ r.2 vs) := by
    unfold dtS
    rw [hn, List.length_map, decide_eq_true hl]; rfl
  rw [e0, bnd_bnd]
  exact go xs 0 [] ρ (fun i => by rw [Nat.zero_add]) (by rw [Nat.zero_add]) h0
end
end DY

set_option Elab.async false
set_option linter.all false
set_option maxRecDepth 100000
set_option maxHeartbeats 4000000
/-! ### the readings of DYzp, DYdv, DYtd, by rewriting -/
namespace DY
local instance : Tb := { T := [] }
section
variable {ρ : Env} {e e1 e2 v m m1 m2 m3 : Ev} {ds es : List D} {i j : Nat} {a b n : Int} {x y d : D}
end
end DY

set_option Elab.async false
set_option linter.all false
set_option maxRecDepth 100000
set_option maxHeartbeats 4000000
/-! ### list(range(i, j)) -/
namespace DY
open PySem L2 PySem.Spec PyProof.Rows
section
variable [Tb]
end
local instance : Tb := { T := [] }
end DY

set_option Elab.async false
set_option linter.all false
set_option maxRecDepth 100000
set_option maxHeartbeats 4000000
/-! ### repr of a list in which {} may stand -/
namespace DY
open PySem L2 PySem.Spec PyProof.Rows
def toZ : D → PyData
  | .dic [] => .dict []
  | d => toP d
def okZ : D → Bool
  | .dic [] => true
  | d => dok 39 d && !(toP d).hasDict
open Classical in
noncomputable def reprZ : List D → R Rv
  | [.lst ds] => if ds.all okZ = true ∧ (PyData.list (ds.map toZ)).showable = true ∧ (PyData.list (ds.map toZ)).depth ≤ 60 ∧ (PyData.list (ds.map toZ)).shown.cps.size ≤ 100000 then .ok (.str (PyData.list (ds.map toZ)).shown.cps.toList, false) else .no
  | _ => .no
mutual
theorem reads_lists {h : Heap} : ∀ {v : Value} {d : PyData} {as : List Addr}, Reads h v d as → d.hasDict = false → ∀ z ∈ as, ∃ o, h.get? z = some o ∧ o.cls = .type "list"
  | _, _, _, .none, _ => fun z hz => by cases hz
  | _, _, _, .bool _, _ => fun z hz => by cases hz
  | _, _, _, .int _ _, _ => fun z hz => by cases hz
  | _, _, _, .str _ _, _ => fun z hz => by cases hz
  | _, _, _, .list e1 e2 _ r, hd => fun z hz => by
    rcases List.mem_cons.mp hz with rfl | hz
    · exact ⟨_, e1, e2⟩
    · exact readsAll_lists r hd z hz
  | _, _, _, .tuple _ _ _ r, hd => readsAll_lists r hd
  | _, _, _, .dict _ _ _ _ _, hd => by cases hd
theorem readsAll_lists {h : Heap} : ∀ {vs : List Value} {ds : List PyData} {as : List Addr}, ReadsAll h vs ds as → PyData.hasDictAll ds = false → ∀ z ∈ as, ∃ o, h.get? z = some o ∧ o.cls = .type "list"
  | _, _, _, .nil, _ => fun z hz => by cases hz
  | _, _, _, .cons r rs, hd => fun z hz => by
    have hd' : (PyData.hasDict _ || PyData.hasDictAll _) = false := hd
    rw [Bool.or_eq_false_iff] at hd'
    rcases List.mem_append.mp hz with hz | hz
    · exact reads_lists r hd'.1 z hz
    · exact readsAll_lists rs hd'.2 z hz
end
section
variable [Tb] {X : Cx} {A : CT}
theorem items_Z {pins : List (Addr × Obj)} {σ : L2.St} {G H : Hp} {s : Shared} (I : Inv X pins σ H s) (sb : Sub G H) (sm : ∃ o, X.K.lookup sysModules = some o ∧ o.cls = .type "dict") : ∀ {ds : List D} {vs : List V} {us : List Value}, ds.all okZ = true → Reps X.K A G vs ds → Vals vs us →
    ∃ as, ReadsAll s.heap us (ds.map toZ) as ∧ sysModules ∉ as
  | [], _, _, _, r, ru => by cases r; cases ru; exact ⟨[], .nil, fun z => by cases z⟩
  | d :: ds, _, _, h, r, ru => by
    rw [List.all_cons, Bool.and_eq_true] at h
    cases r with
    | cons r1 rs =>
    cases ru with
    | @cons _ u0 _ _ ru1 rus =>
    obtain ⟨bs, h1, h2⟩ := items_Z I sb sm h.2 rs rus
    have one : ∃ as, Reads s.heap u0 (toZ d) as ∧ sysModules ∉ as := by
      by_cases hd : d = .dic []
      · subst hd
        cases r1 with
        | @dic p kvs ds hp rk =>
          cases rk
          cases ru1
          obtain ⟨_, hS, vs, rv, o, es, ep, e1, ex, e2, ks, e3⟩ := dk_rd I.hok (sb.dK hp)
          have h0 : es.toList = [] := by
            cases rv
            generalize es.toList = l at e3
            obtain ⟨e3, _⟩ := e3
            cases e3
            rfl
          refine ⟨_, .dict (kvs := []) e1 ex.1 e2 (by rw [h0]; exact .nil) (by rw [h0]; exact .nil), fun z => ?_⟩
          simp at z
          rw [← z] at hS
          simp at hS
      · have e : okZ d = (dok 39 d && !(toP d).hasDict) := by
          unfold okZ; split
          · exact absurd rfl hd
          · rfl
        have e2 : toZ d = toP d := by
          unfold toZ; split
          · exact absurd rfl hd
          · rfl
        rw [e, Bool.and_eq_true, Bool.not_eq_true'] at h
        obtain ⟨as, rd⟩ := Dp.reads I _ _ _ (rep_dp (K := X.K) (A := A) sb 39 d _ h.1.1 r1) ru1
        rw [e2]
        refine ⟨as, rd, fun z => ?_⟩
        obtain ⟨o, ho, hc⟩ := reads_lists rd h.1.2 _ z
        obtain ⟨o', l, hc'⟩ := sm
        rw [I.kIn _ _ l] at ho
        cases ho
        rw [hc] at hc'
        simp at hc'
    obtain ⟨as, h3, h4⟩ := one
    exact ⟨as ++ bs, .cons h3 h1, fun z => (List.mem_append.mp z).elim h4 h2⟩
theorem o_reprZ (sm : ∃ o, X.K.lookup sysModules = some o ∧ o.cls = .type "dict") (hg : X.A.guards = some []) (hu : X.A.units + 65 < cLine) : CallR X (.builtin "repr") (rDn X.K A reprZ) := by
  intro pins s σ H xs us Q I r h
  obtain ⟨G, ds, r0, sb, rs, e, k⟩ := h
  unfold reprZ at e
  split at e
  · rename_i ds
    split at e
    · rename_i hc
      obtain ⟨h1, h2, h3, h4⟩ := hc
      cases e
      obtain ⟨v1, rfl, r1⟩ := rs.inv1
      obtain ⟨u, rfl, ru⟩ := vals1 r
      cases r1 with
      | @lst p vs ds hp q =>
        obtain rfl : u = Value.ref p := ru
        obtain ⟨_, its, n, rv, ho⟩ := (show ObjOk X.prog X.w H s.heap p (.lst vs) from I.hok p _ (sb.lst hp))
        obtain ⟨as, ra, na⟩ := items_Z (A := A) I sb sm h1 q rv
        have rd : Reads s.heap (.ref p) (.list (ds.map toZ)) (p :: as) := .list ho rfl rfl (by simpa using ra)
        refine repr_of_reads' rd h2 (fun _ z => ?_) hg (by omega) (fun b o e => e) (fun h' t tk hk => ?_) (by show (PyData.list (ds.map toZ)).shown.cps.size ≤ sizeLine; rw [sizeLine_eq]; omega)
        · rcases List.mem_cons.mp z with z | z
          · obtain ⟨o', l, hc'⟩ := sm
            rw [← z, I.kIn _ _ l] at ho
            have hc2 := congrArg (fun o : Option Obj => o.map (·.cls)) ho
            simp [hc'] at hc2
          · exact na z
        · have I' : Inv X pins σ H { s with heap := h', toks := tk } := I.kept (t' := tk) hk
          refine ⟨.str (PyData.list (ds.map toZ)).shown, H, I', ⟨t, rfl⟩, ?_⟩
          have := same_end (K := X.K) sb (Rep.str (K := X.K) (A := A) (PyData.list (ds.map toZ)).shown.cps.toList) k
          rw [S_cps] at this
          exact this
    · cases e
  · cases e
end
end DY

set_option Elab.async false
set_option linter.all false
set_option maxRecDepth 100000
set_option maxHeartbeats 4000000
namespace DY
local instance : Tb := { T := [] }
noncomputable def mm_Puppet___eq__ : Sv :=
  (sSeq (sIf (eOr (eNot (eN isiD [(eVar 1), (eC (.cls 2))])) (eOr (eBin (neD no2) (eUn (fldD 2 0) (eVar 0)) (eUn (fldD 2 0) (eVar 1))) (eBin (neD no2) (eUn (fldD 2 1) (eVar 0)) (eUn (fldD 2 1) (eVar 1))))) (sRet (eC (.bl false))) sNext)
  (sRet (eAnd (eBin (eqD no2) (eUn (fldD 2 2) (eVar 0)) (eUn (fldD 2 2) (eVar 1))) (eBin (eqD no2) (eUn (fldD 2 3) (eVar 0)) (eUn (fldD 2 3) (eVar 1))))))
noncomputable def F_Puppet___eq__ : Fn := shut (mkFn 2 2 mm_Puppet___eq__)
theorem q_Puppet___eq__ : F_Puppet___eq__ = mkFn 2 2 mm_Puppet___eq__ := shut_eq _
noncomputable def mt__law_bag_1 : Sv :=
  (sAsg true 3 (eBin modD (eN intD [(eBin (addD no2) (eBin (addD no2) (eBin (mulD no2) (eVar 3) (eC (.int 27449))) (eBin modD (eN intD [(eVar 4)]) (eC (.int 1000081)))) (eBin (mulD no2) (eC (.int 13)) (eVar 1)))]) (eC (.int 2147483563))))
noncomputable def mt__law_bag_2 : Sv :=
  (sSeq (sAsg true 5 (eIf (eOr (eBin ltD (eVar 2) (eC (.int 0))) (eBin geD (eVar 2) (eBin powD (eC (.int 10)) (eC (.int 15))))) (eN absD [(eVar 2)]) (eC (.int 0))))
  (sRet (eN mkLst [(eVar 5), (eBin modD (eN intD [(eBin (addD no2) (eVar 3) (eBin (mulD no2) (eC (.int 39119)) (eBin modD (eN intD [(eVar 2)]) (eC (.int 999907)))))]) (eC (.int 2147483563))), (eC (.int 0))])))
noncomputable def mt__law_bag_3 : Sv :=
  (sSeq (sFor (iVal (eSlice (eVar 0) none (some (eC (.int 7))))) (gN 4) mt__law_bag_1)
  mt__law_bag_2)
noncomputable def mm__law_bag : Sv :=
  (sSeq (sPar true 2 3 (eIf (eBin ltD (eVar 1) (eBor1 (lenB no1) 0)) (eN intD [(eBor ixD 0 (eVar 1))]) (eC (.int 0))) (eBin (mulD no2) (eC (.int 50021)) (eBin (addD no2) (eVar 1) (eC (.int 7)))))
  mt__law_bag_3)
noncomputable def F__law_bag : Fn := shut (mkFn 6 2 mm__law_bag)
theorem q__law_bag : F__law_bag = mkFn 6 2 mm__law_bag := shut_eq _
theorem hl__law_bag : ∀ ds r, F__law_bag ds = .ok r → ds.length = 2 := by rw [q__law_bag]; exact mkFn_len
noncomputable def mt__law_indexes_1 : Sv :=
  (sSeq (sAsg true 1 (eBin (addD no2) (eVar 1) (eN mkLst [(eNK (mkErr 36 1) (prm [0]) [] [(eVar 0)]), (eNK (mkErr 37 1) (prm [0]) [] [(eVar 0)]), (eNK (mkErr 48 1) (prm [0]) [] [(eVar 0)])])))
  (sRetV 1))
noncomputable def mt__law_indexes_2 : Sv :=
  (sSeq (sAsg true 1 (eBin (addD no2) (eVar 1) (eN mkLst [(eNK (mkErr 29 1) (prm [0]) [] [(eVar 0)]), (eNK (mkErr 32 1) (prm [0]) [] [(eVar 0)])])))
  mt__law_indexes_1)
noncomputable def mt__law_indexes_3 : Sv :=
  (sSeq (sAsg true 1 (eBin (addD no2) (eVar 1) (eN mkLst [(eNK (mkErr 25 1) (prm [0]) [] [(eVar 0)]), (eNK (mkErr 26 1) (prm [0]) [] [(eVar 0)]), (eNK (mkErr 27 1) (prm [0]) [] [(eVar 0)])])))
  mt__law_indexes_2)
noncomputable def mt__law_indexes_4 : Sv :=
  (sSeq (sAsg true 1 (eBin (addD no2) (eVar 1) (eN mkLst [(eN (mkErr 32 1) [(eVar 0)]), (eN (mkErr 36 1) [(eVar 0)]), (eN (mkErr 37 1) [(eVar 0)]), (eN (mkErr 48 1) [(eVar 0)])])))
  mt__law_indexes_3)
noncomputable def mm__law_indexes : Sv :=
  (sSeq (sAsg true 1 (eN mkLst [(eN (mkErr 25 1) [(eVar 0)]), (eN (mkErr 26 1) [(eVar 0)]), (eN (mkErr 27 1) [(eVar 0)]), (eN (mkErr 29 1) [(eVar 0)])]))
  mt__law_indexes_4)
noncomputable def F__law_indexes : Fn := shut (mkFn 2 1 mm__law_indexes)
theorem q__law_indexes : F__law_indexes = mkFn 2 1 mm__law_indexes := shut_eq _
theorem hl__law_indexes : ∀ ds r, F__law_indexes ds = .ok r → ds.length = 1 := by rw [q__law_indexes]; exact mkFn_len
noncomputable def mt__law_classes_1 : Sv :=
  (sSeq (sAsg true 1 (eBin (addD no2) (eVar 1) (eN mkLst [(eUn (isErr (isTb xsL [57])) (eVar 0))])))
  (sRetV 1))
noncomputable def mt__law_classes_2 : Sv :=
  (sSeq (sAsg true 1 (eBin (addD no2) (eVar 1) (eN mkLst [(eUn (isErr (isTb xsL [53])) (eVar 0)), (eUn (isErr (isTb xsL [54])) (eVar 0)), (eUn (isErr (isTb xsL [55])) (eVar 0))])))
  mt__law_classes_1)
noncomputable def mt__law_classes_3 : Sv :=
  (sSeq (sAsg true 1 (eBin (addD no2) (eVar 1) (eN mkLst [(eUn (isErr (isTb xsL [50])) (eVar 0)), (eUn (isErr (isTb xsL [51])) (eVar 0)), (eUn (isErr (isTb xsL [52])) (eVar 0))])))
  mt__law_classes_2)
noncomputable def mt__law_classes_4 : Sv :=
  (sSeq (sAsg true 1 (eBin (addD no2) (eVar 1) (eN mkLst [(eUn (isErr (isTb xsL [47])) (eVar 0)), (eUn (isErr (isTb xsL [48])) (eVar 0)), (eUn (isErr (isTb xsL [49])) (eVar 0))])))
  mt__law_classes_3)
noncomputable def mt__law_classes_5 : Sv :=
  (sSeq (sAsg true 1 (eBin (addD no2) (eVar 1) (eN mkLst [(eUn (isErr (isTb xsL [45])) (eVar 0)), (eUn (isErr (isTb xsL [46])) (eVar 0))])))
  mt__law_classes_4)
noncomputable def mt__law_classes_6 : Sv :=
  (sSeq (sAsg true 1 (eBin (addD no2) (eVar 1) (eN mkLst [(eUn (isErr (isTb xsL [41])) (eVar 0)), (eUn (isErr (isTb xsL [42])) (eVar 0)), (eUn (isErr (isTb xsL [43])) (eVar 0))])))
  mt__law_classes_5)
noncomputable def mt__law_classes_7 : Sv :=
  (sSeq (sAsg true 1 (eBin (addD no2) (eVar 1) (eN mkLst [(eUn (isErr (isTb xsL [38])) (eVar 0)), (eUn (isErr (isTb xsL [39])) (eVar 0)), (eUn (isErr (isTb xsL [40])) (eVar 0))])))
  mt__law_classes_6)
noncomputable def mt__law_classes_8 : Sv :=
  (sSeq (sAsg true 1 (eBin (addD no2) (eVar 1) (eN mkLst [(eUn (isErr (isTb xsL [36])) (eVar 0)), (eUn (isErr (isTb xsL [37])) (eVar 0))])))
  mt__law_classes_7)
noncomputable def mt__law_classes_9 : Sv :=
  (sSeq (sAsg true 1 (eBin (addD no2) (eVar 1) (eN mkLst [(eUn (isErr (isTb xsL [34])) (eVar 0)), (eUn (isErr (isTb xsL [35])) (eVar 0))])))
  mt__law_classes_8)
noncomputable def mt__law_classes_10 : Sv :=
  (sSeq (sAsg true 1 (eBin (addD no2) (eVar 1) (eN mkLst [(eUn (isErr (isTb xsL [32])) (eVar 0)), (eUn (isErr (isTb xsL [33])) (eVar 0))])))
  mt__law_classes_9)
noncomputable def mt__law_classes_11 : Sv :=
  (sSeq (sAsg true 1 (eBin (addD no2) (eVar 1) (eN mkLst [(eUn (isErr (isTb xsL [30])) (eVar 0)), (eUn (isErr (isTb xsL [31])) (eVar 0))])))
  mt__law_classes_10)
noncomputable def mt__law_classes_12 : Sv :=
  (sSeq (sAsg true 1 (eBin (addD no2) (eVar 1) (eN mkLst [(eUn (isErr (isTb xsL [28])) (eVar 0)), (eUn (isErr (isTb xsL [29])) (eVar 0))])))
  mt__law_classes_11)
noncomputable def mt__law_classes_13 : Sv :=
  (sSeq (sAsg true 1 (eBin (addD no2) (eVar 1) (eN mkLst [(eUn (isErr (isTb xsL [26])) (eVar 0)), (eUn (isErr (isTb xsL [27])) (eVar 0))])))
  mt__law_classes_12)
noncomputable def mt__law_classes_14 : Sv :=
  (sSeq (sAsg true 1 (eBin (addD no2) (eVar 1) (eN mkLst [(eUn (isErr (isTb xsL [24])) (eVar 0)), (eUn (isErr (isTb xsL [25])) (eVar 0))])))
  mt__law_classes_13)
noncomputable def mm__law_classes : Sv :=
  (sSeq (sAsg true 1 (eN mkLst [(eUn (isErr (isTb xsL [21])) (eVar 0)), (eUn (isErr (isTb xsL [22])) (eVar 0)), (eUn (isErr (isTb xsL [23])) (eVar 0))]))
  mt__law_classes_14)
noncomputable def F__law_classes : Fn := shut (mkFn 2 1 mm__law_classes)
theorem q__law_classes : F__law_classes = mkFn 2 1 mm__law_classes := shut_eq _
theorem hl__law_classes : ∀ ds r, F__law_classes ds = .ok r → ds.length = 1 := by rw [q__law_classes]; exact mkFn_len
noncomputable def mt__law_is_1 : Sv :=
  (sSeq (sAsg true 5 (eN mkLst [(eBin ltD (eVar 1) (eC (.int 23))), (eChain ltD ltD (eC (.int 22)) (eVar 1) (eC (.int 34))), (eBin (eqD no2) (eVar 1) (eC (.int 34)))]))
  (sRet (eAnd (eBin (eqD no2) (eBin countB (eVar 2) (eC (.bl true))) (eC (.int 1))) (eAnd (eBin (eqD no2) (eBin indexT (eVar 2) (eC (.bl true))) (eVar 1)) (eAnd (eBin (eqD no2) (eVar 3) (eVar 5)) (eBin (eqD no2) (eVar 4) (eVar 5)))))))
noncomputable def mt__law_is_2 : Sv :=
  (sSeq (sAsg true 4 (eN mkLst [(eUn (isErr (isTb xsL [20, 21, 22, 23, 24, 25, 26, 27, 28, 29, 30, 31, 32, 33, 34, 35, 36, 37, 38, 39, 40, 41, 42, 43])) (eVar 0)), (eUn (isErr (isTb xsL [44, 45, 46, 47, 48, 49, 50, 51, 52, 53, 54, 55])) (eVar 0)), (eUn (isErr (isTb xsL [56, 57])) (eVar 0))]))
  mt__law_is_1)
noncomputable def mt__law_is_3 : Sv :=
  (sSeq (sAsg true 3 (eN mkLst [(eUn (isErr (isTb xsL [20, 21, 22, 23, 24, 25, 26, 27, 28, 29, 30, 31, 32, 33, 34, 35, 36, 37, 38, 39, 40, 41, 42, 43])) (eVar 0)), (eUn (isErr (isTb xsL [44, 45, 46, 47, 48, 49, 50, 51, 52, 53, 54, 55])) (eVar 0)), (eUn (isErr (isTb xsL [56, 57])) (eVar 0))]))
  mt__law_is_2)
noncomputable def mm__law_is : Sv :=
  (sSeq (sAsg true 2 (eN F__law_classes [(eVar 0)]))
  mt__law_is_3)
noncomputable def F__law_is : Fn := shut (mkFn 6 2 mm__law_is)
theorem q__law_is : F__law_is = mkFn 6 2 mm__law_is := shut_eq _
theorem hl__law_is : ∀ ds r, F__law_is ds = .ok r → ds.length = 2 := by rw [q__law_is]; exact mkFn_len
noncomputable def mt__law_draw_1 : Sv :=
  (sSeq (sPut putM 0 (eC (.int 0)) (eBin fdivD (eBor ixD 0 (eC (.int 0))) (eVar 1)))
  (sRetV 2))
noncomputable def mt__law_draw_2 : Sv :=
  (sSeq (sPut putM 0 (eC (.int 1)) (eBin modD (eN intD [(eBin (addD no2) (eBin (addD no2) (eBin (mulD no2) (eVar 3) (eVar 4)) (eBin (mulD no2) (eC (.int 11)) (eBor ixD 0 (eC (.int 2))))) (eC (.int 17)))]) (eC (.int 2147483563))))
  (sRet (eBin modD (eBin fdivD (eN intD [(eBor ixD 0 (eC (.int 1)))]) (eC (.int 523))) (eVar 1))))
noncomputable def mt__law_draw_3 : Sv :=
  (sSeq (sAsg true 4 (eBin (addD no2) (eBin modD (eN intD [(eVar 3)]) (eC (.int 59951))) (eC (.int 40031))))
  mt__law_draw_2)
noncomputable def mt__law_draw_4 : Sv :=
  (sSeq (sAsg true 3 (eBin (addD no2) (eN intD [(eBor ixD 0 (eC (.int 1)))]) (eBin (mulD no2) (eC (.int 104593)) (eBor ixD 0 (eC (.int 2))))))
  mt__law_draw_3)
noncomputable def mt__law_draw_5 : Sv :=
  (sSeq (sIf (eBin gtD (eBor ixD 0 (eC (.int 0))) (eC (.int 0))) (sSeq (sAsg true 2 (eBin modD (eN intD [(eBor ixD 0 (eC (.int 0)))]) (eVar 1)))
  mt__law_draw_1) sNext)
  mt__law_draw_4)
noncomputable def mm__law_draw : Sv :=
  (sSeq (sPut putM 0 (eC (.int 2)) (eBin (addD no2) (eBor ixD 0 (eC (.int 2))) (eC (.int 1))))
  mt__law_draw_5)
noncomputable def F__law_draw : FnR := shut (mkFnR 5 2 0 mm__law_draw)
theorem q__law_draw : F__law_draw = mkFnR 5 2 0 mm__law_draw := shut_eq _
noncomputable def mm__law_one : Sv :=
  (sRet (eBor ixD 1 (eCallR F__law_draw [] 0 [(eBor1 (lenB no1) 1)])))
noncomputable def F__law_one : FnR := shut (mkFnR 2 2 0 mm__law_one)
theorem q__law_one : F__law_one = mkFnR 2 2 0 mm__law_one := shut_eq _
noncomputable def mt__law_others_right_1 : Sv :=
  (sSeq (sAsg true 4 (eN mkLst [(eN F__law_is [(eN (mkErr 52 0) []), (eC (.int 30))]), (eN F__law_is [(eN (mkErr 53 0) []), (eC (.int 31))])]))
  (sRet (eBin (eqD no2) (eBin (addD no2) (eVar 4) (eN mkLst [(eN F__law_is [(eN (mkErr 54 0) []), (eC (.int 32))])])) (eBin (mulD no2) (eN mkLst [(eC (.bl true))]) (eC (.int 3))))))
noncomputable def mt__law_others_right_2 : Sv :=
  (sSeq (sIf (eBin (neD no2) (eLc (iVal (eVar 2)) (gN 3) (some (eOr (eBin (neD no2) (eN reprA [(eUn (atErr (atTb xt_limit)) (eVar 3))]) (eN reprA [(eVar 0)])) (eNot (eN F__law_is [(eVar 3), (eC (.int 34))])))) (eVar 3) [3]) (eN mkLst [])) (sRet (eC (.bl false))) sNext)
  mt__law_others_right_1)
noncomputable def mt__law_others_right_3 : Sv :=
  (sSeq (sAsg true 2 (eN mkLst [(eN (mkErr 57 1) [(eVar 0)]), (eNK (mkErr 57 1) (prm [0]) [] [(eVar 0)])]))
  mt__law_others_right_2)
noncomputable def mt__law_others_right_4 : Sv :=
  (sSeq (sIf (eBin (neD no2) (eLc (iVal (eVar 2)) (gN 3) (some (eOr (eBin (neD no2) (eN reprA [(eUn (atErr (atTb xt_weights)) (eVar 3))]) (eN reprA [(eVar 0)])) (eNot (eN F__law_is [(eVar 3), (eC (.int 29))])))) (eVar 3) [3]) (eN mkLst [])) (sRet (eC (.bl false))) sNext)
  mt__law_others_right_3)
noncomputable def mt__law_others_right_5 : Sv :=
  (sSeq (sAsg true 2 (eN mkLst [(eN (mkErr 51 1) [(eVar 0)]), (eNK (mkErr 51 1) (prm [0]) [] [(eVar 0)])]))
  mt__law_others_right_4)
noncomputable def mt__law_others_right_6 : Sv :=
  (sSeq (sIf (eBin (neD no2) (eLc (iVal (eVar 2)) (gN 3) (some (eOr (eBin (neD no2) (eN reprA [(eUn (atErr (atTb xt_given)) (eVar 3))]) (eN reprA [(eVar 0)])) (eNot (eN F__law_is [(eVar 3), (eC (.int 28))])))) (eVar 3) [3]) (eN mkLst [])) (sRet (eC (.bl false))) sNext)
  mt__law_others_right_5)
noncomputable def mt__law_others_right_7 : Sv :=
  (sSeq (sAsg true 2 (eN mkLst [(eN (mkErr 50 1) [(eVar 0)]), (eNK (mkErr 50 1) (prm [0]) [] [(eVar 0)])]))
  mt__law_others_right_6)
noncomputable def mt__law_others_right_8 : Sv :=
  (sSeq (sIf (eBin (neD no2) (eLc (iVal (eVar 2)) (gN 3) (some (eOr (eBin (neD no2) (eN reprA [(eUn (atErr (atTb xt_given)) (eVar 3))]) (eN reprA [(eVar 0)])) (eNot (eN F__law_is [(eVar 3), (eC (.int 27))])))) (eVar 3) [3]) (eN mkLst [])) (sRet (eC (.bl false))) sNext)
  mt__law_others_right_7)
noncomputable def mt__law_others_right_9 : Sv :=
  (sSeq (sAsg true 2 (eN mkLst [(eN (mkErr 49 1) [(eVar 0)]), (eNK (mkErr 49 1) (prm [0]) [] [(eVar 0)])]))
  mt__law_others_right_8)
noncomputable def mt__law_others_right_10 : Sv :=
  (sSeq (sIf (eBin (neD no2) (eLc (iVal (eVar 2)) (gN 3) (some (eOr (eBin (neD no2) (eN reprZ [(eN mkLst [(eUn (atErr (atTb xt_move)) (eVar 3)), (eUn (atErr (atTb xt_shown)) (eVar 3))])]) (eN reprZ [(eN mkLst [(eVar 0), (eVar 1)])])) (eNot (eN F__law_is [(eVar 3), (eC (.int 33))])))) (eVar 3) [3]) (eN mkLst [])) (sRet (eC (.bl false))) sNext)
  mt__law_others_right_9)
noncomputable def mm__law_others_right : Sv :=
  (sSeq (sAsg true 2 (eN mkLst [(eN (mkErr 55 2) [(eVar 0), (eVar 1)]), (eNK (mkErr 55 2) (prm [1, 0]) [] [(eVar 1), (eVar 0)])]))
  mt__law_others_right_10)
noncomputable def F__law_others_right : Fn := shut (mkFn 5 2 mm__law_others_right)
theorem q__law_others_right : F__law_others_right = mkFn 5 2 mm__law_others_right := shut_eq _
theorem hl__law_others_right : ∀ ds r, F__law_others_right ds = .ok r → ds.length = 2 := by rw [q__law_others_right]; exact mkFn_len
noncomputable def mt__law_values_1 : Sv :=
  (sSeq (sAsg true 1 (eBin (addD no2) (eVar 1) (eN mkLst [(eNK (mkErr 45 1) (prm [0]) [] [(eVar 0)]), (eNK (mkErr 46 1) (prm [0]) [] [(eVar 0)]), (eNK (mkErr 47 1) (prm [0]) [] [(eVar 0)])])))
  (sRetV 1))
noncomputable def mt__law_values_2 : Sv :=
  (sSeq (sAsg true 1 (eBin (addD no2) (eVar 1) (eN mkLst [(eNK (mkErr 41 1) (prm [0]) [] [(eVar 0)]), (eNK (mkErr 42 1) (prm [0]) [] [(eVar 0)]), (eNK (mkErr 43 1) (prm [0]) [] [(eVar 0)])])))
  mt__law_values_1)
noncomputable def mt__law_values_3 : Sv :=
  (sSeq (sAsg true 1 (eBin (addD no2) (eVar 1) (eN mkLst [(eNK (mkErr 38 1) (prm [0]) [] [(eVar 0)]), (eNK (mkErr 39 1) (prm [0]) [] [(eVar 0)]), (eNK (mkErr 40 1) (prm [0]) [] [(eVar 0)])])))
  mt__law_values_2)
noncomputable def mt__law_values_4 : Sv :=
  (sSeq (sAsg true 1 (eBin (addD no2) (eVar 1) (eN mkLst [(eNK (mkErr 33 1) (prm [0]) [] [(eVar 0)]), (eNK (mkErr 34 1) (prm [0]) [] [(eVar 0)]), (eNK (mkErr 35 1) (prm [0]) [] [(eVar 0)])])))
  mt__law_values_3)
noncomputable def mt__law_values_5 : Sv :=
  (sSeq (sAsg true 1 (eBin (addD no2) (eVar 1) (eN mkLst [(eNK (mkErr 30 1) (prm [0]) [] [(eVar 0)]), (eNK (mkErr 31 1) (prm [0]) [] [(eVar 0)])])))
  mt__law_values_4)
noncomputable def mt__law_values_6 : Sv :=
  (sSeq (sAsg true 1 (eBin (addD no2) (eVar 1) (eN mkLst [(eNK (mkErr 23 1) (prm [0]) [] [(eVar 0)]), (eNK (mkErr 24 1) (prm [0]) [] [(eVar 0)]), (eNK (mkErr 28 1) (prm [0]) [] [(eVar 0)])])))
  mt__law_values_5)
noncomputable def mt__law_values_7 : Sv :=
  (sSeq (sAsg true 1 (eBin (addD no2) (eVar 1) (eN mkLst [(eN (mkErr 47 1) [(eVar 0)]), (eNK (mkErr 21 1) (prm [0]) [] [(eVar 0)]), (eNK (mkErr 22 1) (prm [0]) [] [(eVar 0)])])))
  mt__law_values_6)
noncomputable def mt__law_values_8 : Sv :=
  (sSeq (sAsg true 1 (eBin (addD no2) (eVar 1) (eN mkLst [(eN (mkErr 42 1) [(eVar 0)]), (eN (mkErr 43 1) [(eVar 0)]), (eN (mkErr 45 1) [(eVar 0)]), (eN (mkErr 46 1) [(eVar 0)])])))
  mt__law_values_7)
noncomputable def mt__law_values_9 : Sv :=
  (sSeq (sAsg true 1 (eBin (addD no2) (eVar 1) (eN mkLst [(eN (mkErr 38 1) [(eVar 0)]), (eN (mkErr 39 1) [(eVar 0)]), (eN (mkErr 40 1) [(eVar 0)]), (eN (mkErr 41 1) [(eVar 0)])])))
  mt__law_values_8)
noncomputable def mt__law_values_10 : Sv :=
  (sSeq (sAsg true 1 (eBin (addD no2) (eVar 1) (eN mkLst [(eN (mkErr 33 1) [(eVar 0)]), (eN (mkErr 34 1) [(eVar 0)]), (eN (mkErr 35 1) [(eVar 0)])])))
  mt__law_values_9)
noncomputable def mt__law_values_11 : Sv :=
  (sSeq (sAsg true 1 (eBin (addD no2) (eVar 1) (eN mkLst [(eN (mkErr 28 1) [(eVar 0)]), (eN (mkErr 30 1) [(eVar 0)]), (eN (mkErr 31 1) [(eVar 0)])])))
  mt__law_values_10)
noncomputable def mm__law_values : Sv :=
  (sSeq (sAsg true 1 (eN mkLst [(eN (mkErr 21 1) [(eVar 0)]), (eN (mkErr 22 1) [(eVar 0)]), (eN (mkErr 23 1) [(eVar 0)]), (eN (mkErr 24 1) [(eVar 0)])]))
  mt__law_values_11)
noncomputable def F__law_values : Fn := shut (mkFn 2 1 mm__law_values)
theorem q__law_values : F__law_values = mkFn 2 1 mm__law_values := shut_eq _
theorem hl__law_values : ∀ ds r, F__law_values ds = .ok r → ds.length = 1 := by rw [q__law_values]; exact mkFn_len
noncomputable def mt__law_right_1 : Sv :=
  (sIf (eOr (eBin (neD no2) (eN reprA [(eUn (atErr (atTb xt_value)) (eBor ixD 4 (eVar 6)))]) (eN reprA [(eVar 2)])) (eNot (eN F__law_is [(eBor ixD 4 (eVar 6)), (eBin ixD (eBin (addD no2) (eVar 5) (eVar 5)) (eVar 6))]))) (sRet (eC (.bl false))) sNext)
noncomputable def mt__law_right_2 : Sv :=
  (sIf (eOr (eBin (neD no2) (eN reprA [(eUn (atErr (atTb xt_index)) (eBor ixD 4 (eVar 6)))]) (eN reprA [(eVar 2)])) (eNot (eN F__law_is [(eBor ixD 4 (eVar 6)), (eBin ixD (eBin (addD no2) (eVar 5) (eVar 5)) (eVar 6))]))) (sRet (eC (.bl false))) sNext)
noncomputable def mt__law_right_3 : Sv :=
  (sSeq (sFor (iRange [(eC (.int 16))]) (gN 6) mt__law_right_2)
  (sRet (eN F__law_others_right [(eVar 2), (eVar 3)])))
noncomputable def mt__law_right_4 : Sv :=
  (sSeq (sAsg true 5 (eN mkLst [(eC (.int 4)), (eC (.int 5)), (eC (.int 6)), (eC (.int 8)), (eC (.int 11)), (eC (.int 15)), (eC (.int 16)), (eC (.int 26))]))
  mt__law_right_3)
noncomputable def mt__law_right_5 : Sv :=
  (sSeq (sAsg true 4 (eN F__law_indexes [(eVar 2)]))
  mt__law_right_4)
noncomputable def mt__law_right_6 : Sv :=
  (sSeq (sFor (iRange [(eC (.int 38))]) (gN 6) mt__law_right_1)
  mt__law_right_5)
noncomputable def mt__law_right_7 : Sv :=
  (sSeq (sAsg true 5 (eN mkLst [(eC (.int 0)), (eC (.int 1)), (eC (.int 2)), (eC (.int 3)), (eC (.int 7)), (eC (.int 9)), (eC (.int 10)), (eC (.int 12)), (eC (.int 13)), (eC (.int 14)), (eC (.int 17)), (eC (.int 18)), (eC (.int 19)), (eC (.int 20)), (eC (.int 21)), (eC (.int 22)), (eC (.int 23)), (eC (.int 24)), (eC (.int 25))]))
  mt__law_right_6)
noncomputable def mt__law_right_8 : Sv :=
  (sSeq (sAsg true 4 (eN F__law_values [(eVar 2)]))
  mt__law_right_7)
noncomputable def mt__law_right_9 : Sv :=
  (sSeq (sPar true 2 3 (eCallR F__law_one [] 0 [(eVar 1)]) (eCallR F__law_one [] 0 [(eVar 1)]))
  mt__law_right_8)
noncomputable def mm__law_right : Sv :=
  (sSeq (sAsg true 1 (eN mkLst [(eBin (addD no2) (eBin powD (eC (.int 10)) (eC (.int 29))) (eC (.int 7))), (eC .non), (eC (.str [120])), (eN mkTup [(eC (.int 1)), (eC (.str [97]))]), (eN mkLst [(eC (.int 2))]), (eC0 (.dic [])), (eC (.bl true)), (eUn (negD no1) (eC (.int 5))), (eN mkTup [(eC (.str [97, 98])), (eN mkTup [])]), (eC (.str []))]))
  mt__law_right_9)
noncomputable def F__law_right : FnR := shut (mkFnR 7 1 0 mm__law_right)
theorem q__law_right : F__law_right = mkFnR 7 1 0 mm__law_right := shut_eq _
noncomputable def mm_are_great : Sv :=
  (sSeq (sIf (eOr (eNot (eN isiD [(eVar 0), (eC (.ty .str))])) (eNot (eChain leD leD (eVar 1) (eBor1 (lenB no1) 0) (eVar 2)))) (sRet (eC (.bl false))) sNext)
  (sRet (eN allD [(eLc (iVal (eVar 0)) (gN 3) none (eChain leD leD (eC (.str [65])) (eVar 3) (eC (.str [90]))) [3])])))
noncomputable def F_are_great : Fn := shut (mkFn 4 3 mm_are_great)
theorem q_are_great : F_are_great = mkFn 4 3 mm_are_great := shut_eq _
theorem hl_are_great : ∀ ds r, F_are_great ds = .ok r → ds.length = 3 := by rw [q_are_great]; exact mkFn_len
noncomputable def mm_in_order : Sv :=
  (sRet (eN allD [(eLc (iRange [(eC (.int 1)), (eBor1 (lenB no1) 0)]) (gN 1) none (eBin ltD (eBor ixD 0 (eBin (subD no2) (eVar 1) (eC (.int 1)))) (eBor ixD 0 (eVar 1))) [1])]))
noncomputable def F_in_order : Fn := shut (mkFn 2 1 mm_in_order)
theorem q_in_order : F_in_order = mkFn 2 1 mm_in_order := shut_eq _
theorem hl_in_order : ∀ ds r, F_in_order ds = .ok r → ds.length = 1 := by rw [q_in_order]; exact mkFn_len
noncomputable def mm_check_hooks : Sv :=
  (sIf (eOr (eNot (eN F_are_great [(eVar 0), (eC (.int 1)), (eC (.int 4))])) (eNot (eN F_in_order [(eVar 0)]))) sNo sNext)
noncomputable def F_check_hooks : Fn := shut (mkFn 1 1 mm_check_hooks)
theorem q_check_hooks : F_check_hooks = mkFn 1 1 mm_check_hooks := shut_eq _
theorem hl_check_hooks : ∀ ds r, F_check_hooks ds = .ok r → ds.length = 1 := by rw [q_check_hooks]; exact mkFn_len
noncomputable def mm_are_small : Sv :=
  (sSeq (sIf (eOr (eNot (eN isiD [(eVar 0), (eC (.ty .str))])) (eNot (eChain leD leD (eVar 1) (eBor1 (lenB no1) 0) (eVar 2)))) (sRet (eC (.bl false))) sNext)
  (sRet (eN allD [(eLc (iVal (eVar 0)) (gN 3) none (eChain leD leD (eC (.str [97])) (eVar 3) (eC (.str [122]))) [3])])))
noncomputable def F_are_small : Fn := shut (mkFn 4 3 mm_are_small)
theorem q_are_small : F_are_small = mkFn 4 3 mm_are_small := shut_eq _
theorem hl_are_small : ∀ ds r, F_are_small ds = .ok r → ds.length = 3 := by rw [q_are_small]; exact mkFn_len
noncomputable def mt_check_parts_1 : Sv :=
  (sIf (eOr (eNot (eN F_are_small [(eVar 2), (eC (.int 2)), (eC (.int 8))])) (eBin inD (eVar 2) (eSlice (eVar 0) none (some (eVar 1))))) sNo sNext)
noncomputable def mm_check_parts : Sv :=
  (sSeq (sIf (eOr (eNot (eN isiD [(eVar 0), (eC (.ty .tuple))])) (eNot (eChain leD leD (eC (.int 1)) (eBor1 (lenB no1) 0) (eC (.int 6))))) sNo sNext)
  (sFor (iEn (eVar 0)) (gT [(gN 1), (gN 2)]) mt_check_parts_1))
noncomputable def F_check_parts : Fn := shut (mkFn 3 1 mm_check_parts)
theorem q_check_parts : F_check_parts = mkFn 3 1 mm_check_parts := shut_eq _
theorem hl_check_parts : ∀ ds r, F_check_parts ds = .ok r → ds.length = 1 := by rw [q_check_parts]; exact mkFn_len
noncomputable def mm_is_string : Sv :=
  (sSeq (sIf (eOr (eNot (eN isiD [(eVar 3), (eC (.ty .tuple))])) (eOr (eBin (neD no2) (eBor1 (lenB no1) 3) (eC (.int 3))) (eOr (eNot (eN F_are_small [(eBor ixD 3 (eC (.int 0))), (eC (.int 1)), (eC (.int 1))])) (eBin leD (eBor ixD 3 (eC (.int 0))) (eVar 2))))) (sRet (eC (.bl false))) sNext)
  (sRet (eAnd (eN F_are_great [(eBor ixD 3 (eC (.int 1))), (eC (.int 1)), (eC (.int 1))]) (eAnd (eBorR inD (eBor ixD 3 (eC (.int 1))) 1) (eBorR inD (eBor ixD 3 (eC (.int 2))) 0)))))
noncomputable def F_is_string : Fn := shut (mkFn 4 4 mm_is_string)
theorem q_is_string : F_is_string = mkFn 4 4 mm_is_string := shut_eq _
theorem hl_is_string : ∀ ds r, F_is_string ds = .ok r → ds.length = 4 := by rw [q_is_string]; exact mkFn_len
noncomputable def mt_check_strings_1 : Sv :=
  (sSeq (sIf (eNot (eN F_is_string [(eVar 0), (eVar 1), (eVar 3), (eVar 5)])) sNo sNext)
  (sAsg true 3 (eBor ixD 5 (eC (.int 0)))))
noncomputable def mt_check_strings_2 : Sv :=
  (sSeq (sAsg true 3 (eC (.str [])))
  (sFor (iEn (eVar 2)) (gT [(gN 4), (gN 5)]) mt_check_strings_1))
noncomputable def mm_check_strings : Sv :=
  (sSeq (sIf (eOr (eNot (eN isiD [(eVar 2), (eC (.ty .tuple))])) (eNot (eChain leD leD (eC (.int 1)) (eBor1 (lenB no1) 2) (eC (.int 6))))) sNo sNext)
  mt_check_strings_2)
noncomputable def F_check_strings : Fn := shut (mkFn 6 3 mm_check_strings)
theorem q_check_strings : F_check_strings = mkFn 6 3 mm_check_strings := shut_eq _
theorem hl_check_strings : ∀ ds r, F_check_strings ds = .ok r → ds.length = 3 := by rw [q_check_strings]; exact mkFn_len
noncomputable def mm_is_integer : Sv :=
  (sRet (eAnd (eN isiD [(eVar 0), (eC (.ty .int))]) (eNot (eN isiD [(eVar 0), (eC (.ty .bool))]))))
noncomputable def F_is_integer : Fn := shut (mkFn 1 1 mm_is_integer)
theorem q_is_integer : F_is_integer = mkFn 1 1 mm_is_integer := shut_eq _
theorem hl_is_integer : ∀ ds r, F_is_integer ds = .ok r → ds.length = 1 := by rw [q_is_integer]; exact mkFn_len
noncomputable def mm_is_number : Sv :=
  (sRet (eAnd (eN F_is_integer [(eVar 0)]) (eAnd (eBin geD (eVar 0) (eC (.int 0))) (eOr (eBin isN (eVar 1) (eC .non)) (eBin leD (eVar 0) (eVar 1))))))
noncomputable def F_is_number : Fn := shut (mkFn 2 2 mm_is_number)
theorem q_is_number : F_is_number = mkFn 2 2 mm_is_number := shut_eq _
theorem hl_is_number : ∀ ds r, F_is_number ds = .ok r → ds.length = 2 := by rw [q_is_number]; exact mkFn_len
noncomputable def mt_is_tie_1 : Sv :=
  (sSeq (sIf (eOr (eBorR ninD (eVar 3) 0) (eOr (eBorR ninD (eVar 4) 0) (eBin (eqD no2) (eVar 3) (eVar 4)))) (sRet (eC (.bl false))) sNext)
  (sRet (eAnd (eBorR ninD (eN mkKey [(eVar 3), (eVar 4)]) 1) (eBorR ninD (eN mkKey [(eVar 4), (eVar 3)]) 1))))
noncomputable def mt_is_tie_2 : Sv :=
  (sSeq (sPar true 3 4 (eBor ixD 2 (eC (.int 0))) (eBor ixD 2 (eC (.int 1))))
  mt_is_tie_1)
noncomputable def mm_is_tie : Sv :=
  (sSeq (sIf (eOr (eNot (eN isiD [(eVar 2), (eC (.ty .tuple))])) (eOr (eBin (neD no2) (eBor1 (lenB no1) 2) (eC (.int 3))) (eNot (eN F_is_number [(eBor ixD 2 (eC (.int 2))), (eC (.int 1000000))])))) (sRet (eC (.bl false))) sNext)
  mt_is_tie_2)
noncomputable def F_is_tie : FnR := shut (mkFnR 5 3 1 mm_is_tie)
theorem q_is_tie : F_is_tie = mkFnR 5 3 1 mm_is_tie := shut_eq _
noncomputable def mt_check_ties_1 : Sv :=
  (sSeq (sIf (eNot (eCallR F_is_tie [(eVar 0)] 2 [(eVar 4)])) sNo sNext)
  (sExpr (eMut appendM 2 [(eN mkTup [(eBor ixD 4 (eC (.int 0))), (eBor ixD 4 (eC (.int 1)))])])))
noncomputable def mt_check_ties_2 : Sv :=
  (sSeq (sAsg true 2 (eN mkLst []))
  (sFor (iEn (eVar 1)) (gT [(gN 3), (gN 4)]) mt_check_ties_1))
noncomputable def mm_check_ties : Sv :=
  (sSeq (sIf (eOr (eNot (eN isiD [(eVar 1), (eC (.ty .tuple))])) (eBin gtD (eBor1 (lenB no1) 1) (eC (.int 10)))) sNo sNext)
  mt_check_ties_2)
noncomputable def F_check_ties : Fn := shut (mkFn 5 2 mm_check_ties)
theorem q_check_ties : F_check_ties = mkFn 5 2 mm_check_ties := shut_eq _
theorem hl_check_ties : ∀ ds r, F_check_ties ds = .ok r → ds.length = 2 := by rw [q_check_ties]; exact mkFn_len
noncomputable def mt_distances_of_1 : Sv :=
  (sSeq (sPut putM 2 (eN mkKey [(eVar 3), (eVar 4)]) (eVar 5))
  (sPut putM 2 (eN mkKey [(eVar 4), (eVar 3)]) (eVar 5)))
noncomputable def mt_distances_of_2 : Sv :=
  (sIf (eAnd (eBorR inD (eN mkKey [(eVar 3), (eVar 6)]) 2) (eBorR inD (eN mkKey [(eVar 6), (eVar 4)]) 2)) (sSeq (sAsg true 7 (eBin (addD no2) (eBor ixD 2 (eN mkKey [(eVar 3), (eVar 6)])) (eBor ixD 2 (eN mkKey [(eVar 6), (eVar 4)]))))
  (sIf (eOr (eBorR ninD (eN mkKey [(eVar 3), (eVar 4)]) 2) (eBin ltD (eVar 7) (eBor ixD 2 (eN mkKey [(eVar 3), (eVar 4)])))) (sPut putM 2 (eN mkKey [(eVar 3), (eVar 4)]) (eVar 7)) sNext)) sNext)
noncomputable def mt_distances_of_3 : Sv :=
  (sFor (iVal (eVar 0)) (gN 4) mt_distances_of_2)
noncomputable def mt_distances_of_4 : Sv :=
  (sFor (iVal (eVar 0)) (gN 3) mt_distances_of_3)
noncomputable def mt_distances_of_5 : Sv :=
  (sSeq (sFor (iVal (eVar 0)) (gN 6) mt_distances_of_4)
  (sRetV 2))
noncomputable def mt_distances_of_6 : Sv :=
  (sSeq (sFor (iVal (eVar 1)) (gT [(gN 3), (gN 4), (gN 5)]) mt_distances_of_1)
  mt_distances_of_5)
noncomputable def mm_distances_of : Sv :=
  (sSeq (sAsg true 2 (eDt (iVal (eVar 0)) (gN 3) none (eN mkKey [(eVar 3), (eVar 3)]) (eC (.int 0)) [3]))
  mt_distances_of_6)
noncomputable def F_distances_of : Fn := shut (mkFn 8 2 mm_distances_of)
theorem q_distances_of : F_distances_of = mkFn 8 2 mm_distances_of := shut_eq _
theorem hl_distances_of : ∀ ds r, F_distances_of ds = .ok r → ds.length = 2 := by rw [q_distances_of]; exact mkFn_len
noncomputable def mt_Puppet___init___1 : Sv :=
  (sSeq (sFld 2 4 (eBin joinB (eC (.str [])) (eLc (iVal (eVar 4)) (gN 5) none (eBor ixD 5 (eC (.int 0))) [5])))
  (sFld 2 5 (eN F_distances_of [(eVar 1), (eVar 2)])))
noncomputable def mt_Puppet___init___2 : Sv :=
  (sSeq (sFld 2 3 (eVar 4))
  mt_Puppet___init___1)
noncomputable def mt_Puppet___init___3 : Sv :=
  (sSeq (sFld 2 2 (eVar 3))
  mt_Puppet___init___2)
noncomputable def mt_Puppet___init___4 : Sv :=
  (sSeq (sFld 2 1 (eVar 2))
  mt_Puppet___init___3)
noncomputable def mt_Puppet___init___5 : Sv :=
  (sSeq (sFld 2 0 (eVar 1))
  mt_Puppet___init___4)
noncomputable def mt_Puppet___init___6 : Sv :=
  (sSeq (sExpr (eN F_check_strings [(eVar 1), (eVar 3), (eVar 4)]))
  mt_Puppet___init___5)
noncomputable def mt_Puppet___init___7 : Sv :=
  (sSeq (sExpr (eN F_check_hooks [(eVar 3)]))
  mt_Puppet___init___6)
noncomputable def mt_Puppet___init___8 : Sv :=
  (sSeq (sExpr (eN F_check_ties [(eVar 1), (eVar 2)]))
  mt_Puppet___init___7)
noncomputable def mm_Puppet___init__ : Sv :=
  (sSeq (sExpr (eN F_check_parts [(eVar 1)]))
  mt_Puppet___init___8)
noncomputable def F_Puppet___init__ : FnR := shut (mkFnR 6 5 0 mm_Puppet___init__)
theorem q_Puppet___init__ : F_Puppet___init__ = mkFnR 6 5 0 mm_Puppet___init__ := shut_eq _
theorem hi_Puppet___init__ : ∀ ds d r, F_Puppet___init__ ds d = .ok r → ds.length + 1 = 5 := by rw [q_Puppet___init__]; exact mkFnR_len
noncomputable def mt_stick_man_1 : Sv :=
  (sSeq (sAsg true 1 (eN mkTup [(eN mkTup [(eC (.str [97])), (eC (.str [66])), (eC (.str [98, 111, 100, 121]))]), (eN mkTup [(eC (.str [98])), (eC (.str [72])), (eC (.str [104, 97, 110, 100]))]), (eN mkTup [(eC (.str [99])), (eC (.str [70])), (eC (.str [102, 111, 111, 116]))])]))
  (sRet (eN (fun xs => mkObj 2 F_Puppet___init__ (xs ++ [])) [(eN mkTup [(eC (.str [98, 111, 100, 121])), (eC (.str [104, 97, 110, 100])), (eC (.str [102, 111, 111, 116]))]), (eVar 0), (eC (.str [66, 70, 72])), (eVar 1)])))
noncomputable def mm_stick_man : Sv :=
  (sSeq (sAsg true 0 (eN mkTup [(eN mkTup [(eC (.str [98, 111, 100, 121])), (eC (.str [104, 97, 110, 100])), (eC (.int 4))]), (eN mkTup [(eC (.str [98, 111, 100, 121])), (eC (.str [102, 111, 111, 116])), (eC (.int 6))])]))
  mt_stick_man_1)
noncomputable def F_stick_man : Fn := shut (mkFn 2 0 mm_stick_man)
theorem q_stick_man : F_stick_man = mkFn 2 0 mm_stick_man := shut_eq _
theorem hl_stick_man : ∀ ds r, F_stick_man ds = .ok r → ds.length = 0 := by rw [q_stick_man]; exact mkFn_len
noncomputable def mm_two_lines : Sv :=
  (sRet (eN (fun xs => mkObj 2 F_Puppet___init__ (xs ++ [])) [(eN mkTup [(eC (.str [108, 111, 97, 100]))]), (eN mkTup []), (eC (.str [65, 66])), (eN mkTup [(eN mkTup [(eC (.str [97])), (eC (.str [65])), (eC (.str [108, 111, 97, 100]))]), (eN mkTup [(eC (.str [98])), (eC (.str [66])), (eC (.str [108, 111, 97, 100]))])])]))
noncomputable def F_two_lines : Fn := shut (mkFn 0 0 mm_two_lines)
theorem q_two_lines : F_two_lines = mkFn 0 0 mm_two_lines := shut_eq _
theorem hl_two_lines : ∀ ds r, F_two_lines ds = .ok r → ds.length = 0 := by rw [q_two_lines]; exact mkFn_len
noncomputable def mt_law_1 : Sv :=
  (sSeq (sIf (eOr (eBin (neD (sel (cany 2) (fun x y => F_Puppet___eq__ [x, y]) no2)) (eVar 4) (eN mkLst [(eN mkTup [(eC (.str [108, 111, 97, 100]))]), (eN mkTup []), (eC (.str [65, 66])), (eN mkTup [(eN mkTup [(eC (.str [97])), (eC (.str [65])), (eC (.str [108, 111, 97, 100]))]), (eN mkTup [(eC (.str [98])), (eC (.str [66])), (eC (.str [108, 111, 97, 100]))])])])) (eBin (neD (sel (cany 2) (fun x y => F_Puppet___eq__ [x, y]) no2)) (eN F_stick_man []) (eVar 2))) (sRet (eC (.bl false))) sNext)
  (sRet (eN allD [(eLc (iRange [(eN maxD [(eC (.int 2)), (eN minD [(eBor1 (lenB no1) 0), (eC (.int 6))])])]) (gN 5) none (eCallT F__law_right [] (eN F__law_bag [(eVar 0), (eVar 5)])) [5])])))
noncomputable def mt_law_2 : Sv :=
  (sSeq (sAsg true 4 (eN mkLst [(eUn (fldD 2 0) (eVar 3)), (eUn (fldD 2 1) (eVar 3)), (eUn (fldD 2 2) (eVar 3)), (eUn (fldD 2 3) (eVar 3))]))
  mt_law_1)
noncomputable def mt_law_3 : Sv :=
  (sSeq (sIf (eBin (neD (sel (cany 2) (fun x y => F_Puppet___eq__ [x, y]) no2)) (eN mkLst [(eUn (fldD 2 2) (eVar 2)), (eUn (fldD 2 3) (eVar 2))]) (eN mkLst [(eC (.str [66, 70, 72])), (eN mkTup [(eN mkTup [(eC (.str [97])), (eC (.str [66])), (eC (.str [98, 111, 100, 121]))]), (eN mkTup [(eC (.str [98])), (eC (.str [72])), (eC (.str [104, 97, 110, 100]))]), (eN mkTup [(eC (.str [99])), (eC (.str [70])), (eC (.str [102, 111, 111, 116]))])])])) (sRet (eC (.bl false))) sNext)
  mt_law_2)
noncomputable def mt_law_4 : Sv :=
  (sSeq (sIf (eBin (neD (sel (cany 2) (fun x y => F_Puppet___eq__ [x, y]) no2)) (eN mkLst [(eUn (fldD 2 0) (eVar 2)), (eUn (fldD 2 1) (eVar 2))]) (eN mkLst [(eN mkTup [(eC (.str [98, 111, 100, 121])), (eC (.str [104, 97, 110, 100])), (eC (.str [102, 111, 111, 116]))]), (eN mkTup [(eN mkTup [(eC (.str [98, 111, 100, 121])), (eC (.str [104, 97, 110, 100])), (eC (.int 4))]), (eN mkTup [(eC (.str [98, 111, 100, 121])), (eC (.str [102, 111, 111, 116])), (eC (.int 6))])])])) (sRet (eC (.bl false))) sNext)
  mt_law_3)
noncomputable def mt_law_5 : Sv :=
  (sSeq (sPar true 2 3 (eN F_stick_man []) (eN F_two_lines []))
  mt_law_4)
noncomputable def mt_law_6 : Sv :=
  (sSeq (sIf (eBin (neD (sel (cany 2) (fun x y => F_Puppet___eq__ [x, y]) no2)) (eN reprA [(eVar 1)]) (eN reprA [(eN mkLst [(eC (.int 6)), (eC (.int 10)), (eC (.int 4)), (eC (.int 6)), (eC (.int 6)), (eC (.int 3)), (eC (.int 8)), (eBin powD (eC (.int 10)) (eC (.int 6))), (eC (.int 6)), (eC (.int 4)), (eC (.int 8)), (eC (.int 6)), (eC (.int 4))])])) (sRet (eC (.bl false))) sNext)
  mt_law_5)
noncomputable def mt_law_7 : Sv :=
  (sSeq (sAsg true 1 (eBin (addD no2) (eVar 1) (eN mkLst [(eC (.int 6)), (eC (.int 4)), (eC (.int 8)), (eC (.int 6)), (eC (.int 4))])))
  mt_law_6)
noncomputable def mm_law : Sv :=
  (sSeq (sAsg true 1 (eN mkLst [(eC (.int 6)), (eC (.int 10)), (eC (.int 4)), (eC (.int 6)), (eC (.int 6)), (eC (.int 3)), (eC (.int 8)), (eC (.int 1000000))]))
  mt_law_7)
noncomputable def F_law : Fn := shut (mkFn 6 1 mm_law)
theorem q_law : F_law = mkFn 6 1 mm_law := shut_eq _
end DY

set_option Elab.async false
set_option linter.all false
set_option maxRecDepth 100000
set_option maxHeartbeats 4000000
namespace DY
theorem u_mm_Puppet___eq__ {ρ : Env} : mm_Puppet___eq__ ρ = (sSeq (sIf (eOr (eNot (eN isiD [(eVar 1), (eC (.cls 2))])) (eOr (eBin (neD no2) (eUn (fldD 2 0) (eVar 0)) (eUn (fldD 2 0) (eVar 1))) (eBin (neD no2) (eUn (fldD 2 1) (eVar 0)) (eUn (fldD 2 1) (eVar 1))))) (sRet (eC (.bl false))) sNext) (sRet (eAnd (eBin (eqD no2) (eUn (fldD 2 2) (eVar 0)) (eUn (fldD 2 2) (eVar 1))) (eBin (eqD no2) (eUn (fldD 2 3) (eVar 0)) (eUn (fldD 2 3) (eVar 1)))))) ρ := rfl
theorem u_mt__law_bag_1 {ρ : Env} : mt__law_bag_1 ρ = (sAsg true 3 (eBin modD (eN intD [(eBin (addD no2) (eBin (addD no2) (eBin (mulD no2) (eVar 3) (eC (.int 27449))) (eBin modD (eN intD [(eVar 4)]) (eC (.int 1000081)))) (eBin (mulD no2) (eC (.int 13)) (eVar 1)))]) (eC (.int 2147483563)))) ρ := rfl
theorem u_mt__law_bag_2 {ρ : Env} : mt__law_bag_2 ρ = (sSeq (sAsg true 5 (eIf (eOr (eBin ltD (eVar 2) (eC (.int 0))) (eBin geD (eVar 2) (eBin powD (eC (.int 10)) (eC (.int 15))))) (eN absD [(eVar 2)]) (eC (.int 0)))) (sRet (eN mkLst [(eVar 5), (eBin modD (eN intD [(eBin (addD no2) (eVar 3) (eBin (mulD no2) (eC (.int 39119)) (eBin modD (eN intD [(eVar 2)]) (eC (.int 999907)))))]) (eC (.int 2147483563))), (eC (.int 0))]))) ρ := rfl
theorem u_mt__law_bag_3 {ρ : Env} : mt__law_bag_3 ρ = (sSeq (sFor (iVal (eSlice (eVar 0) none (some (eC (.int 7))))) (gN 4) mt__law_bag_1) mt__law_bag_2) ρ := rfl
theorem u_mm__law_bag {ρ : Env} : mm__law_bag ρ = (sSeq (sPar true 2 3 (eIf (eBin ltD (eVar 1) (eBor1 (lenB no1) 0)) (eN intD [(eBor ixD 0 (eVar 1))]) (eC (.int 0))) (eBin (mulD no2) (eC (.int 50021)) (eBin (addD no2) (eVar 1) (eC (.int 7))))) mt__law_bag_3) ρ := rfl
theorem u_mt__law_indexes_1 {ρ : Env} : mt__law_indexes_1 ρ = (sSeq (sAsg true 1 (eBin (addD no2) (eVar 1) (eN mkLst [(eNK (mkErr 36 1) (prm [0]) [] [(eVar 0)]), (eNK (mkErr 37 1) (prm [0]) [] [(eVar 0)]), (eNK (mkErr 48 1) (prm [0]) [] [(eVar 0)])]))) (sRetV 1)) ρ := rfl
theorem u_mt__law_indexes_2 {ρ : Env} : mt__law_indexes_2 ρ = (sSeq (sAsg true 1 (eBin (addD no2) (eVar 1) (eN mkLst [(eNK (mkErr 29 1) (prm [0]) [] [(eVar 0)]), (eNK (mkErr 32 1) (prm [0]) [] [(eVar 0)])]))) mt__law_indexes_1) ρ := rfl
theorem u_mt__law_indexes_3 {ρ : Env} : mt__law_indexes_3 ρ = (sSeq (sAsg true 1 (eBin (addD no2) (eVar 1) (eN mkLst [(eNK (mkErr 25 1) (prm [0]) [] [(eVar 0)]), (eNK (mkErr 26 1) (prm [0]) [] [(eVar 0)]), (eNK (mkErr 27 1) (prm [0]) [] [(eVar 0)])]))) mt__law_indexes_2) ρ := rfl
theorem u_mt__law_indexes_4 {ρ : Env} : mt__law_indexes_4 ρ = (sSeq (sAsg true 1 (eBin (addD no2) (eVar 1) (eN mkLst [(eN (mkErr 32 1) [(eVar 0)]), (eN (mkErr 36 1) [(eVar 0)]), (eN (mkErr 37 1) [(eVar 0)]), (eN (mkErr 48 1) [(eVar 0)])]))) mt__law_indexes_3) ρ := rfl
theorem u_mm__law_indexes {ρ : Env} : mm__law_indexes ρ = (sSeq (sAsg true 1 (eN mkLst [(eN (mkErr 25 1) [(eVar 0)]), (eN (mkErr 26 1) [(eVar 0)]), (eN (mkErr 27 1) [(eVar 0)]), (eN (mkErr 29 1) [(eVar 0)])])) mt__law_indexes_4) ρ := rfl
theorem u_mt__law_classes_1 {ρ : Env} : mt__law_classes_1 ρ = (sSeq (sAsg true 1 (eBin (addD no2) (eVar 1) (eN mkLst [(eUn (isErr (isTb xsL [57])) (eVar 0))]))) (sRetV 1)) ρ := rfl
theorem u_mt__law_classes_2 {ρ : Env} : mt__law_classes_2 ρ = (sSeq (sAsg true 1 (eBin (addD no2) (eVar 1) (eN mkLst [(eUn (isErr (isTb xsL [53])) (eVar 0)), (eUn (isErr (isTb xsL [54])) (eVar 0)), (eUn (isErr (isTb xsL [55])) (eVar 0))]))) mt__law_classes_1) ρ := rfl
theorem u_mt__law_classes_3 {ρ : Env} : mt__law_classes_3 ρ = (sSeq (sAsg true 1 (eBin (addD no2) (eVar 1) (eN mkLst [(eUn (isErr (isTb xsL [50])) (eVar 0)), (eUn (isErr (isTb xsL [51])) (eVar 0)), (eUn (isErr (isTb xsL [52])) (eVar 0))]))) mt__law_classes_2) ρ := rfl
theorem u_mt__law_classes_4 {ρ : Env} : mt__law_classes_4 ρ = (sSeq (sAsg true 1 (eBin (addD no2) (eVar 1) (eN mkLst [(eUn (isErr (isTb xsL [47])) (eVar 0)), (eUn (isErr (isTb xsL [48])) (eVar 0)), (eUn (isErr (isTb xsL [49])) (eVar 0))]))) mt__law_classes_3) ρ := rfl
theorem u_mt__law_classes_5 {ρ : Env} : mt__law_classes_5 ρ = (sSeq (sAsg true 1 (eBin (addD no2) (eVar 1) (eN mkLst [(eUn (isErr (isTb xsL [45])) (eVar 0)), (eUn (isErr (isTb xsL [46])) (eVar 0))]))) mt__law_classes_4) ρ := rfl
theorem u_mt__law_classes_6 {ρ : Env} : mt__law_classes_6 ρ = (sSeq (sAsg true 1 (eBin (addD no2) (eVar 1) (eN mkLst [(eUn (isErr (isTb xsL [41])) (eVar 0)), (eUn (isErr (isTb xsL [42])) (eVar 0)), (eUn (isErr (isTb xsL [43])) (eVar 0))]))) mt__law_classes_5) ρ := rfl
theorem u_mt__law_classes_7 {ρ : Env} : mt__law_classes_7 ρ = (sSeq (sAsg true 1 (eBin (addD no2) (eVar 1) (eN mkLst [(eUn (isErr (isTb xsL [38])) (eVar 0)), (eUn (isErr (isTb xsL [39])) (eVar 0)), (eUn (isErr (isTb xsL [40])) (eVar 0))]))) mt__law_classes_6) ρ := rfl
theorem u_mt__law_classes_8 {ρ : Env} : mt__law_classes_8 ρ = (sSeq (sAsg true 1 (eBin (addD no2) (eVar 1) (eN mkLst [(eUn (isErr (isTb xsL [36])) (eVar 0)), (eUn (isErr (isTb xsL [37])) (eVar 0))]))) mt__law_classes_7) ρ := rfl
theorem u_mt__law_classes_9 {ρ : Env} : mt__law_classes_9 ρ = (sSeq (sAsg true 1 (eBin (addD no2) (eVar 1) (eN mkLst [(eUn (isErr (isTb xsL [34])) (eVar 0)), (eUn (isErr (isTb xsL [35])) (eVar 0))]))) mt__law_classes_8) ρ := rfl
theorem u_mt__law_classes_10 {ρ : Env} : mt__law_classes_10 ρ = (sSeq (sAsg true 1 (eBin (addD no2) (eVar 1) (eN mkLst [(eUn (isErr (isTb xsL [32])) (eVar 0)), (eUn (isErr (isTb xsL [33])) (eVar 0))]))) mt__law_classes_9) ρ := rfl
theorem u_mt__law_classes_11 {ρ : Env} : mt__law_classes_11 ρ = (sSeq (sAsg true 1 (eBin (addD no2) (eVar 1) (eN mkLst [(eUn (isErr (isTb xsL [30])) (eVar 0)), (eUn (isErr (isTb xsL [31])) (eVar 0))]))) mt__law_classes_10) ρ := rfl
theorem u_mt__law_classes_12 {ρ : Env} : mt__law_classes_12 ρ = (sSeq (sAsg true 1 (eBin (addD no2) (eVar 1) (eN mkLst [(eUn (isErr (isTb xsL [28])) (eVar 0)), (eUn (isErr (isTb xsL [29])) (eVar 0))]))) mt__law_classes_11) ρ := rfl
theorem u_mt__law_classes_13 {ρ : Env} : mt__law_classes_13 ρ = (sSeq (sAsg true 1 (eBin (addD no2) (eVar 1) (eN mkLst [(eUn (isErr (isTb xsL [26])) (eVar 0)), (eUn (isErr (isTb xsL [27])) (eVar 0))]))) mt__law_classes_12) ρ := rfl
theorem u_mt__law_classes_14 {ρ : Env} : mt__law_classes_14 ρ = (sSeq (sAsg true 1 (eBin (addD no2) (eVar 1) (eN mkLst [(eUn (isErr (isTb xsL [24])) (eVar 0)), (eUn (isErr (isTb xsL [25])) (eVar 0))]))) mt__law_classes_13) ρ := rfl
theorem u_mm__law_classes {ρ : Env} : mm__law_classes ρ = (sSeq (sAsg true 1 (eN mkLst [(eUn (isErr (isTb xsL [21])) (eVar 0)), (eUn (isErr (isTb xsL [22])) (eVar 0)), (eUn (isErr (isTb xsL [23])) (eVar 0))])) mt__law_classes_14) ρ := rfl
theorem u_mt__law_is_1 {ρ : Env} : mt__law_is_1 ρ = (sSeq (sAsg true 5 (eN mkLst [(eBin ltD (eVar 1) (eC (.int 23))), (eChain ltD ltD (eC (.int 22)) (eVar 1) (eC (.int 34))), (eBin (eqD no2) (eVar 1) (eC (.int 34)))])) (sRet (eAnd (eBin (eqD no2) (eBin countB (eVar 2) (eC (.bl true))) (eC (.int 1))) (eAnd (eBin (eqD no2) (eBin indexT (eVar 2) (eC (.bl true))) (eVar 1)) (eAnd (eBin (eqD no2) (eVar 3) (eVar 5)) (eBin (eqD no2) (eVar 4) (eVar 5))))))) ρ := rfl
theorem u_mt__law_is_2 {ρ : Env} : mt__law_is_2 ρ = (sSeq (sAsg true 4 (eN mkLst [(eUn (isErr (isTb xsL [20, 21, 22, 23, 24, 25, 26, 27, 28, 29, 30, 31, 32, 33, 34, 35, 36, 37, 38, 39, 40, 41, 42, 43])) (eVar 0)), (eUn (isErr (isTb xsL [44, 45, 46, 47, 48, 49, 50, 51, 52, 53, 54, 55])) (eVar 0)), (eUn (isErr (isTb xsL [56, 57])) (eVar 0))])) mt__law_is_1) ρ := rfl
theorem u_mt__law_is_3 {ρ : Env} : mt__law_is_3 ρ = (sSeq (sAsg true 3 (eN mkLst [(eUn (isErr (isTb xsL [20, 21, 22, 23, 24, 25, 26, 27, 28, 29, 30, 31, 32, 33, 34, 35, 36, 37, 38, 39, 40, 41, 42, 43])) (eVar 0)), (eUn (isErr (isTb xsL [44, 45, 46, 47, 48, 49, 50, 51, 52, 53, 54, 55])) (eVar 0)), (eUn (isErr (isTb xsL [56, 57])) (eVar 0))])) mt__law_is_2) ρ := rfl
theorem u_mm__law_is {ρ : Env} : mm__law_is ρ = (sSeq (sAsg true 2 (eN F__law_classes [(eVar 0)])) mt__law_is_3) ρ := rfl
theorem u_mt__law_draw_1 {ρ : Env} : mt__law_draw_1 ρ = (sSeq (sPut putM 0 (eC (.int 0)) (eBin fdivD (eBor ixD 0 (eC (.int 0))) (eVar 1))) (sRetV 2)) ρ := rfl
theorem u_mt__law_draw_2 {ρ : Env} : mt__law_draw_2 ρ = (sSeq (sPut putM 0 (eC (.int 1)) (eBin modD (eN intD [(eBin (addD no2) (eBin (addD no2) (eBin (mulD no2) (eVar 3) (eVar 4)) (eBin (mulD no2) (eC (.int 11)) (eBor ixD 0 (eC (.int 2))))) (eC (.int 17)))]) (eC (.int 2147483563)))) (sRet (eBin modD (eBin fdivD (eN intD [(eBor ixD 0 (eC (.int 1)))]) (eC (.int 523))) (eVar 1)))) ρ := rfl
theorem u_mt__law_draw_3 {ρ : Env} : mt__law_draw_3 ρ = (sSeq (sAsg true 4 (eBin (addD no2) (eBin modD (eN intD [(eVar 3)]) (eC (.int 59951))) (eC (.int 40031)))) mt__law_draw_2) ρ := rfl
theorem u_mt__law_draw_4 {ρ : Env} : mt__law_draw_4 ρ = (sSeq (sAsg true 3 (eBin (addD no2) (eN intD [(eBor ixD 0 (eC (.int 1)))]) (eBin (mulD no2) (eC (.int 104593)) (eBor ixD 0 (eC (.int 2)))))) mt__law_draw_3) ρ := rfl
theorem u_mt__law_draw_5 {ρ : Env} : mt__law_draw_5 ρ = (sSeq (sIf (eBin gtD (eBor ixD 0 (eC (.int 0))) (eC (.int 0))) (sSeq (sAsg true 2 (eBin modD (eN intD [(eBor ixD 0 (eC (.int 0)))]) (eVar 1))) mt__law_draw_1) sNext) mt__law_draw_4) ρ := rfl
theorem u_mm__law_draw {ρ : Env} : mm__law_draw ρ = (sSeq (sPut putM 0 (eC (.int 2)) (eBin (addD no2) (eBor ixD 0 (eC (.int 2))) (eC (.int 1)))) mt__law_draw_5) ρ := rfl
theorem u_mm__law_one {ρ : Env} : mm__law_one ρ = (sRet (eBor ixD 1 (eCallR F__law_draw [] 0 [(eBor1 (lenB no1) 1)]))) ρ := rfl
theorem u_mt__law_others_right_1 {ρ : Env} : mt__law_others_right_1 ρ = (sSeq (sAsg true 4 (eN mkLst [(eN F__law_is [(eN (mkErr 52 0) []), (eC (.int 30))]), (eN F__law_is [(eN (mkErr 53 0) []), (eC (.int 31))])])) (sRet (eBin (eqD no2) (eBin (addD no2) (eVar 4) (eN mkLst [(eN F__law_is [(eN (mkErr 54 0) []), (eC (.int 32))])])) (eBin (mulD no2) (eN mkLst [(eC (.bl true))]) (eC (.int 3)))))) ρ := rfl
theorem u_mt__law_others_right_2 {ρ : Env} : mt__law_others_right_2 ρ = (sSeq (sIf (eBin (neD no2) (eLc (iVal (eVar 2)) (gN 3) (some (eOr (eBin (neD no2) (eN reprA [(eUn (atErr (atTb xt_limit)) (eVar 3))]) (eN reprA [(eVar 0)])) (eNot (eN F__law_is [(eVar 3), (eC (.int 34))])))) (eVar 3) [3]) (eN mkLst [])) (sRet (eC (.bl false))) sNext) mt__law_others_right_1) ρ := rfl
theorem u_mt__law_others_right_3 {ρ : Env} : mt__law_others_right_3 ρ = (sSeq (sAsg true 2 (eN mkLst [(eN (mkErr 57 1) [(eVar 0)]), (eNK (mkErr 57 1) (prm [0]) [] [(eVar 0)])])) mt__law_others_right_2) ρ := rfl
theorem u_mt__law_others_right_4 {ρ : Env} : mt__law_others_right_4 ρ = (sSeq (sIf (eBin (neD no2) (eLc (iVal (eVar 2)) (gN 3) (some (eOr (eBin (neD no2) (eN reprA [(eUn (atErr (atTb xt_weights)) (eVar 3))]) (eN reprA [(eVar 0)])) (eNot (eN F__law_is [(eVar 3), (eC (.int 29))])))) (eVar 3) [3]) (eN mkLst [])) (sRet (eC (.bl false))) sNext) mt__law_others_right_3) ρ := rfl
theorem u_mt__law_others_right_5 {ρ : Env} : mt__law_others_right_5 ρ = (sSeq (sAsg true 2 (eN mkLst [(eN (mkErr 51 1) [(eVar 0)]), (eNK (mkErr 51 1) (prm [0]) [] [(eVar 0)])])) mt__law_others_right_4) ρ := rfl
theorem u_mt__law_others_right_6 {ρ : Env} : mt__law_others_right_6 ρ = (sSeq (sIf (eBin (neD no2) (eLc (iVal (eVar 2)) (gN 3) (some (eOr (eBin (neD no2) (eN reprA [(eUn (atErr (atTb xt_given)) (eVar 3))]) (eN reprA [(eVar 0)])) (eNot (eN F__law_is [(eVar 3), (eC (.int 28))])))) (eVar 3) [3]) (eN mkLst [])) (sRet (eC (.bl false))) sNext) mt__law_others_right_5) ρ := rfl
theorem u_mt__law_others_right_7 {ρ : Env} : mt__law_others_right_7 ρ = (sSeq (sAsg true 2 (eN mkLst [(eN (mkErr 50 1) [(eVar 0)]), (eNK (mkErr 50 1) (prm [0]) [] [(eVar 0)])])) mt__law_others_right_6) ρ := rfl
theorem u_mt__law_others_right_8 {ρ : Env} : mt__law_others_right_8 ρ = (sSeq (sIf (eBin (neD no2) (eLc (iVal (eVar 2)) (gN 3) (some (eOr (eBin (neD no2) (eN reprA [(eUn (atErr (atTb xt_given)) (eVar 3))]) (eN reprA [(eVar 0)])) (eNot (eN F__law_is [(eVar 3), (eC (.int 27))])))) (eVar 3) [3]) (eN mkLst [])) (sRet (eC (.bl false))) sNext) mt__law_others_right_7) ρ := rfl
theorem u_mt__law_others_right_9 {ρ : Env} : mt__law_others_right_9 ρ = (sSeq (sAsg true 2 (eN mkLst [(eN (mkErr 49 1) [(eVar 0)]), (eNK (mkErr 49 1) (prm [0]) [] [(eVar 0)])])) mt__law_others_right_8) ρ := rfl
theorem u_mt__law_others_right_10 {ρ : Env} : mt__law_others_right_10 ρ = (sSeq (sIf (eBin (neD no2) (eLc (iVal (eVar 2)) (gN 3) (some (eOr (eBin (neD no2) (eN reprZ [(eN mkLst [(eUn (atErr (atTb xt_move)) (eVar 3)), (eUn (atErr (atTb xt_shown)) (eVar 3))])]) (eN reprZ [(eN mkLst [(eVar 0), (eVar 1)])])) (eNot (eN F__law_is [(eVar 3), (eC (.int 33))])))) (eVar 3) [3]) (eN mkLst [])) (sRet (eC (.bl false))) sNext) mt__law_others_right_9) ρ := rfl
theorem u_mm__law_others_right {ρ : Env} : mm__law_others_right ρ = (sSeq (sAsg true 2 (eN mkLst [(eN (mkErr 55 2) [(eVar 0), (eVar 1)]), (eNK (mkErr 55 2) (prm [1, 0]) [] [(eVar 1), (eVar 0)])])) mt__law_others_right_10) ρ := rfl
theorem u_mt__law_values_1 {ρ : Env} : mt__law_values_1 ρ = (sSeq (sAsg true 1 (eBin (addD no2) (eVar 1) (eN mkLst [(eNK (mkErr 45 1) (prm [0]) [] [(eVar 0)]), (eNK (mkErr 46 1) (prm [0]) [] [(eVar 0)]), (eNK (mkErr 47 1) (prm [0]) [] [(eVar 0)])]))) (sRetV 1)) ρ := rfl
theorem u_mt__law_values_2 {ρ : Env} : mt__law_values_2 ρ = (sSeq (sAsg true 1 (eBin (addD no2) (eVar 1) (eN mkLst [(eNK (mkErr 41 1) (prm [0]) [] [(eVar 0)]), (eNK (mkErr 42 1) (prm [0]) [] [(eVar 0)]), (eNK (mkErr 43 1) (prm [0]) [] [(eVar 0)])]))) mt__law_values_1) ρ := rfl
theorem u_mt__law_values_3 {ρ : Env} : mt__law_values_3 ρ = (sSeq (sAsg true 1 (eBin (addD no2) (eVar 1) (eN mkLst [(eNK (mkErr 38 1) (prm [0]) [] [(eVar 0)]), (eNK (mkErr 39 1) (prm [0]) [] [(eVar 0)]), (eNK (mkErr 40 1) (prm [0]) [] [(eVar 0)])]))) mt__law_values_2) ρ := rfl
theorem u_mt__law_values_4 {ρ : Env} : mt__law_values_4 ρ = (sSeq (sAsg true 1 (eBin (addD no2) (eVar 1) (eN mkLst [(eNK (mkErr 33 1) (prm [0]) [] [(eVar 0)]), (eNK (mkErr 34 1) (prm [0]) [] [(eVar 0)]), (eNK (mkErr 35 1) (prm [0]) [] [(eVar 0)])]))) mt__law_values_3) ρ := rfl
theorem u_mt__law_values_5 {ρ : Env} : mt__law_values_5 ρ = (sSeq (sAsg true 1 (eBin (addD no2) (eVar 1) (eN mkLst [(eNK (mkErr 30 1) (prm [0]) [] [(eVar 0)]), (eNK (mkErr 31 1) (prm [0]) [] [(eVar 0)])]))) mt__law_values_4) ρ := rfl
theorem u_mt__law_values_6 {ρ : Env} : mt__law_values_6 ρ = (sSeq (sAsg true 1 (eBin (addD no2) (eVar 1) (eN mkLst [(eNK (mkErr 23 1) (prm [0]) [] [(eVar 0)]), (eNK (mkErr 24 1) (prm [0]) [] [(eVar 0)]), (eNK (mkErr 28 1) (prm [0]) [] [(eVar 0)])]))) mt__law_values_5) ρ := rfl
theorem u_mt__law_values_7 {ρ : Env} : mt__law_values_7 ρ = (sSeq (sAsg true 1 (eBin (addD no2) (eVar 1) (eN mkLst [(eN (mkErr 47 1) [(eVar 0)]), (eNK (mkErr 21 1) (prm [0]) [] [(eVar 0)]), (eNK (mkErr 22 1) (prm [0]) [] [(eVar 0)])]))) mt__law_values_6) ρ := rfl
theorem u_mt__law_values_8 {ρ : Env} : mt__law_values_8 ρ = (sSeq (sAsg true 1 (eBin (addD no2) (eVar 1) (eN mkLst [(eN (mkErr 42 1) [(eVar 0)]), (eN (mkErr 43 1) [(eVar 0)]), (eN (mkErr 45 1) [(eVar 0)]), (eN (mkErr 46 1) [(eVar 0)])]))) mt__law_values_7) ρ := rfl
theorem u_mt__law_values_9 {ρ : Env} : mt__law_values_9 ρ = (sSeq (sAsg true 1 (eBin (addD no2) (eVar 1) (eN mkLst [(eN (mkErr 38 1) [(eVar 0)]), (eN (mkErr 39 1) [(eVar 0)]), (eN (mkErr 40 1) [(eVar 0)]), (eN (mkErr 41 1) [(eVar 0)])]))) mt__law_values_8) ρ := rfl
theorem u_mt__law_values_10 {ρ : Env} : mt__law_values_10 ρ = (sSeq (sAsg true 1 (eBin (addD no2) (eVar 1) (eN mkLst [(eN (mkErr 33 1) [(eVar 0)]), (eN (mkErr 34 1) [(eVar 0)]), (eN (mkErr 35 1) [(eVar 0)])]))) mt__law_values_9) ρ := rfl
theorem u_mt__law_values_11 {ρ : Env} : mt__law_values_11 ρ = (sSeq (sAsg true 1 (eBin (addD no2) (eVar 1) (eN mkLst [(eN (mkErr 28 1) [(eVar 0)]), (eN (mkErr 30 1) [(eVar 0)]), (eN (mkErr 31 1) [(eVar 0)])]))) mt__law_values_10) ρ := rfl
theorem u_mm__law_values {ρ : Env} : mm__law_values ρ = (sSeq (sAsg true 1 (eN mkLst [(eN (mkErr 21 1) [(eVar 0)]), (eN (mkErr 22 1) [(eVar 0)]), (eN (mkErr 23 1) [(eVar 0)]), (eN (mkErr 24 1) [(eVar 0)])])) mt__law_values_11) ρ := rfl
theorem u_mt__law_right_1 {ρ : Env} : mt__law_right_1 ρ = (sIf (eOr (eBin (neD no2) (eN reprA [(eUn (atErr (atTb xt_value)) (eBor ixD 4 (eVar 6)))]) (eN reprA [(eVar 2)])) (eNot (eN F__law_is [(eBor ixD 4 (eVar 6)), (eBin ixD (eBin (addD no2) (eVar 5) (eVar 5)) (eVar 6))]))) (sRet (eC (.bl false))) sNext) ρ := rfl
theorem u_mt__law_right_2 {ρ : Env} : mt__law_right_2 ρ = (sIf (eOr (eBin (neD no2) (eN reprA [(eUn (atErr (atTb xt_index)) (eBor ixD 4 (eVar 6)))]) (eN reprA [(eVar 2)])) (eNot (eN F__law_is [(eBor ixD 4 (eVar 6)), (eBin ixD (eBin (addD no2) (eVar 5) (eVar 5)) (eVar 6))]))) (sRet (eC (.bl false))) sNext) ρ := rfl
theorem u_mt__law_right_3 {ρ : Env} : mt__law_right_3 ρ = (sSeq (sFor (iRange [(eC (.int 16))]) (gN 6) mt__law_right_2) (sRet (eN F__law_others_right [(eVar 2), (eVar 3)]))) ρ := rfl
theorem u_mt__law_right_4 {ρ : Env} : mt__law_right_4 ρ = (sSeq (sAsg true 5 (eN mkLst [(eC (.int 4)), (eC (.int 5)), (eC (.int 6)), (eC (.int 8)), (eC (.int 11)), (eC (.int 15)), (eC (.int 16)), (eC (.int 26))])) mt__law_right_3) ρ := rfl
theorem u_mt__law_right_5 {ρ : Env} : mt__law_right_5 ρ = (sSeq (sAsg true 4 (eN F__law_indexes [(eVar 2)])) mt__law_right_4) ρ := rfl
theorem u_mt__law_right_6 {ρ : Env} : mt__law_right_6 ρ = (sSeq (sFor (iRange [(eC (.int 38))]) (gN 6) mt__law_right_1) mt__law_right_5) ρ := rfl
theorem u_mt__law_right_7 {ρ : Env} : mt__law_right_7 ρ = (sSeq (sAsg true 5 (eN mkLst [(eC (.int 0)), (eC (.int 1)), (eC (.int 2)), (eC (.int 3)), (eC (.int 7)), (eC (.int 9)), (eC (.int 10)), (eC (.int 12)), (eC (.int 13)), (eC (.int 14)), (eC (.int 17)), (eC (.int 18)), (eC (.int 19)), (eC (.int 20)), (eC (.int 21)), (eC (.int 22)), (eC (.int 23)), (eC (.int 24)), (eC (.int 25))])) mt__law_right_6) ρ := rfl
theorem u_mt__law_right_8 {ρ : Env} : mt__law_right_8 ρ = (sSeq (sAsg true 4 (eN F__law_values [(eVar 2)])) mt__law_right_7) ρ := rfl
theorem u_mt__law_right_9 {ρ : Env} : mt__law_right_9 ρ = (sSeq (sPar true 2 3 (eCallR F__law_one [] 0 [(eVar 1)]) (eCallR F__law_one [] 0 [(eVar 1)])) mt__law_right_8) ρ := rfl
theorem u_mm__law_right {ρ : Env} : mm__law_right ρ = (sSeq (sAsg true 1 (eN mkLst [(eBin (addD no2) (eBin powD (eC (.int 10)) (eC (.int 29))) (eC (.int 7))), (eC .non), (eC (.str [120])), (eN mkTup [(eC (.int 1)), (eC (.str [97]))]), (eN mkLst [(eC (.int 2))]), (eC0 (.dic [])), (eC (.bl true)), (eUn (negD no1) (eC (.int 5))), (eN mkTup [(eC (.str [97, 98])), (eN mkTup [])]), (eC (.str []))])) mt__law_right_9) ρ := rfl
theorem u_mm_are_great {ρ : Env} : mm_are_great ρ = (sSeq (sIf (eOr (eNot (eN isiD [(eVar 0), (eC (.ty .str))])) (eNot (eChain leD leD (eVar 1) (eBor1 (lenB no1) 0) (eVar 2)))) (sRet (eC (.bl false))) sNext) (sRet (eN allD [(eLc (iVal (eVar 0)) (gN 3) none (eChain leD leD (eC (.str [65])) (eVar 3) (eC (.str [90]))) [3])]))) ρ := rfl
theorem u_mm_in_order {ρ : Env} : mm_in_order ρ = (sRet (eN allD [(eLc (iRange [(eC (.int 1)), (eBor1 (lenB no1) 0)]) (gN 1) none (eBin ltD (eBor ixD 0 (eBin (subD no2) (eVar 1) (eC (.int 1)))) (eBor ixD 0 (eVar 1))) [1])])) ρ := rfl
theorem u_mm_check_hooks {ρ : Env} : mm_check_hooks ρ = (sIf (eOr (eNot (eN F_are_great [(eVar 0), (eC (.int 1)), (eC (.int 4))])) (eNot (eN F_in_order [(eVar 0)]))) sNo sNext) ρ := rfl
theorem u_mm_are_small {ρ : Env} : mm_are_small ρ = (sSeq (sIf (eOr (eNot (eN isiD [(eVar 0), (eC (.ty .str))])) (eNot (eChain leD leD (eVar 1) (eBor1 (lenB no1) 0) (eVar 2)))) (sRet (eC (.bl false))) sNext) (sRet (eN allD [(eLc (iVal (eVar 0)) (gN 3) none (eChain leD leD (eC (.str [97])) (eVar 3) (eC (.str [122]))) [3])]))) ρ := rfl
theorem u_mt_check_parts_1 {ρ : Env} : mt_check_parts_1 ρ = (sIf (eOr (eNot (eN F_are_small [(eVar 2), (eC (.int 2)), (eC (.int 8))])) (eBin inD (eVar 2) (eSlice (eVar 0) none (some (eVar 1))))) sNo sNext) ρ := rfl
theorem u_mm_check_parts {ρ : Env} : mm_check_parts ρ = (sSeq (sIf (eOr (eNot (eN isiD [(eVar 0), (eC (.ty .tuple))])) (eNot (eChain leD leD (eC (.int 1)) (eBor1 (lenB no1) 0) (eC (.int 6))))) sNo sNext) (sFor (iEn (eVar 0)) (gT [(gN 1), (gN 2)]) mt_check_parts_1)) ρ := rfl
theorem u_mm_is_string {ρ : Env} : mm_is_string ρ = (sSeq (sIf (eOr (eNot (eN isiD [(eVar 3), (eC (.ty .tuple))])) (eOr (eBin (neD no2) (eBor1 (lenB no1) 3) (eC (.int 3))) (eOr (eNot (eN F_are_small [(eBor ixD 3 (eC (.int 0))), (eC (.int 1)), (eC (.int 1))])) (eBin leD (eBor ixD 3 (eC (.int 0))) (eVar 2))))) (sRet (eC (.bl false))) sNext) (sRet (eAnd (eN F_are_great [(eBor ixD 3 (eC (.int 1))), (eC (.int 1)), (eC (.int 1))]) (eAnd (eBorR inD (eBor ixD 3 (eC (.int 1))) 1) (eBorR inD (eBor ixD 3 (eC (.int 2))) 0))))) ρ := rfl
theorem u_mt_check_strings_1 {ρ : Env} : mt_check_strings_1 ρ = (sSeq (sIf (eNot (eN F_is_string [(eVar 0), (eVar 1), (eVar 3), (eVar 5)])) sNo sNext) (sAsg true 3 (eBor ixD 5 (eC (.int 0))))) ρ := rfl
theorem u_mt_check_strings_2 {ρ : Env} : mt_check_strings_2 ρ = (sSeq (sAsg true 3 (eC (.str []))) (sFor (iEn (eVar 2)) (gT [(gN 4), (gN 5)]) mt_check_strings_1)) ρ := rfl
theorem u_mm_check_strings {ρ : Env} : mm_check_strings ρ = (sSeq (sIf (eOr (eNot (eN isiD [(eVar 2), (eC (.ty .tuple))])) (eNot (eChain leD leD (eC (.int 1)) (eBor1 (lenB no1) 2) (eC (.int 6))))) sNo sNext) mt_check_strings_2) ρ := rfl
theorem u_mm_is_integer {ρ : Env} : mm_is_integer ρ = (sRet (eAnd (eN isiD [(eVar 0), (eC (.ty .int))]) (eNot (eN isiD [(eVar 0), (eC (.ty .bool))])))) ρ := rfl
theorem u_mm_is_number {ρ : Env} : mm_is_number ρ = (sRet (eAnd (eN F_is_integer [(eVar 0)]) (eAnd (eBin geD (eVar 0) (eC (.int 0))) (eOr (eBin isN (eVar 1) (eC .non)) (eBin leD (eVar 0) (eVar 1)))))) ρ := rfl
theorem u_mt_is_tie_1 {ρ : Env} : mt_is_tie_1 ρ = (sSeq (sIf (eOr (eBorR ninD (eVar 3) 0) (eOr (eBorR ninD (eVar 4) 0) (eBin (eqD no2) (eVar 3) (eVar 4)))) (sRet (eC (.bl false))) sNext) (sRet (eAnd (eBorR ninD (eN mkKey [(eVar 3), (eVar 4)]) 1) (eBorR ninD (eN mkKey [(eVar 4), (eVar 3)]) 1)))) ρ := rfl
theorem u_mt_is_tie_2 {ρ : Env} : mt_is_tie_2 ρ = (sSeq (sPar true 3 4 (eBor ixD 2 (eC (.int 0))) (eBor ixD 2 (eC (.int 1)))) mt_is_tie_1) ρ := rfl
theorem u_mm_is_tie {ρ : Env} : mm_is_tie ρ = (sSeq (sIf (eOr (eNot (eN isiD [(eVar 2), (eC (.ty .tuple))])) (eOr (eBin (neD no2) (eBor1 (lenB no1) 2) (eC (.int 3))) (eNot (eN F_is_number [(eBor ixD 2 (eC (.int 2))), (eC (.int 1000000))])))) (sRet (eC (.bl false))) sNext) mt_is_tie_2) ρ := rfl
theorem u_mt_check_ties_1 {ρ : Env} : mt_check_ties_1 ρ = (sSeq (sIf (eNot (eCallR F_is_tie [(eVar 0)] 2 [(eVar 4)])) sNo sNext) (sExpr (eMut appendM 2 [(eN mkTup [(eBor ixD 4 (eC (.int 0))), (eBor ixD 4 (eC (.int 1)))])]))) ρ := rfl
theorem u_mt_check_ties_2 {ρ : Env} : mt_check_ties_2 ρ = (sSeq (sAsg true 2 (eN mkLst [])) (sFor (iEn (eVar 1)) (gT [(gN 3), (gN 4)]) mt_check_ties_1)) ρ := rfl
theorem u_mm_check_ties {ρ : Env} : mm_check_ties ρ = (sSeq (sIf (eOr (eNot (eN isiD [(eVar 1), (eC (.ty .tuple))])) (eBin gtD (eBor1 (lenB no1) 1) (eC (.int 10)))) sNo sNext) mt_check_ties_2) ρ := rfl
theorem u_mt_distances_of_1 {ρ : Env} : mt_distances_of_1 ρ = (sSeq (sPut putM 2 (eN mkKey [(eVar 3), (eVar 4)]) (eVar 5)) (sPut putM 2 (eN mkKey [(eVar 4), (eVar 3)]) (eVar 5))) ρ := rfl
theorem u_mt_distances_of_2 {ρ : Env} : mt_distances_of_2 ρ = (sIf (eAnd (eBorR inD (eN mkKey [(eVar 3), (eVar 6)]) 2) (eBorR inD (eN mkKey [(eVar 6), (eVar 4)]) 2)) (sSeq (sAsg true 7 (eBin (addD no2) (eBor ixD 2 (eN mkKey [(eVar 3), (eVar 6)])) (eBor ixD 2 (eN mkKey [(eVar 6), (eVar 4)])))) (sIf (eOr (eBorR ninD (eN mkKey [(eVar 3), (eVar 4)]) 2) (eBin ltD (eVar 7) (eBor ixD 2 (eN mkKey [(eVar 3), (eVar 4)])))) (sPut putM 2 (eN mkKey [(eVar 3), (eVar 4)]) (eVar 7)) sNext)) sNext) ρ := rfl
theorem u_mt_distances_of_3 {ρ : Env} : mt_distances_of_3 ρ = (sFor (iVal (eVar 0)) (gN 4) mt_distances_of_2) ρ := rfl
theorem u_mt_distances_of_4 {ρ : Env} : mt_distances_of_4 ρ = (sFor (iVal (eVar 0)) (gN 3) mt_distances_of_3) ρ := rfl
theorem u_mt_distances_of_5 {ρ : Env} : mt_distances_of_5 ρ = (sSeq (sFor (iVal (eVar 0)) (gN 6) mt_distances_of_4) (sRetV 2)) ρ := rfl
theorem u_mt_distances_of_6 {ρ : Env} : mt_distances_of_6 ρ = (sSeq (sFor (iVal (eVar 1)) (gT [(gN 3), (gN 4), (gN 5)]) mt_distances_of_1) mt_distances_of_5) ρ := rfl
theorem u_mm_distances_of {ρ : Env} : mm_distances_of ρ = (sSeq (sAsg true 2 (eDt (iVal (eVar 0)) (gN 3) none (eN mkKey [(eVar 3), (eVar 3)]) (eC (.int 0)) [3])) mt_distances_of_6) ρ := rfl
theorem u_mt_Puppet___init___1 {ρ : Env} : mt_Puppet___init___1 ρ = (sSeq (sFld 2 4 (eBin joinB (eC (.str [])) (eLc (iVal (eVar 4)) (gN 5) none (eBor ixD 5 (eC (.int 0))) [5]))) (sFld 2 5 (eN F_distances_of [(eVar 1), (eVar 2)]))) ρ := rfl
theorem u_mt_Puppet___init___2 {ρ : Env} : mt_Puppet___init___2 ρ = (sSeq (sFld 2 3 (eVar 4)) mt_Puppet___init___1) ρ := rfl
theorem u_mt_Puppet___init___3 {ρ : Env} : mt_Puppet___init___3 ρ = (sSeq (sFld 2 2 (eVar 3)) mt_Puppet___init___2) ρ := rfl
theorem u_mt_Puppet___init___4 {ρ : Env} : mt_Puppet___init___4 ρ = (sSeq (sFld 2 1 (eVar 2)) mt_Puppet___init___3) ρ := rfl
theorem u_mt_Puppet___init___5 {ρ : Env} : mt_Puppet___init___5 ρ = (sSeq (sFld 2 0 (eVar 1)) mt_Puppet___init___4) ρ := rfl
theorem u_mt_Puppet___init___6 {ρ : Env} : mt_Puppet___init___6 ρ = (sSeq (sExpr (eN F_check_strings [(eVar 1), (eVar 3), (eVar 4)])) mt_Puppet___init___5) ρ := rfl
theorem u_mt_Puppet___init___7 {ρ : Env} : mt_Puppet___init___7 ρ = (sSeq (sExpr (eN F_check_hooks [(eVar 3)])) mt_Puppet___init___6) ρ := rfl
theorem u_mt_Puppet___init___8 {ρ : Env} : mt_Puppet___init___8 ρ = (sSeq (sExpr (eN F_check_ties [(eVar 1), (eVar 2)])) mt_Puppet___init___7) ρ := rfl
theorem u_mm_Puppet___init__ {ρ : Env} : mm_Puppet___init__ ρ = (sSeq (sExpr (eN F_check_parts [(eVar 1)])) mt_Puppet___init___8) ρ := rfl
theorem u_mt_stick_man_1 {ρ : Env} : mt_stick_man_1 ρ = (sSeq (sAsg true 1 (eN mkTup [(eN mkTup [(eC (.str [97])), (eC (.str [66])), (eC (.str [98, 111, 100, 121]))]), (eN mkTup [(eC (.str [98])), (eC (.str [72])), (eC (.str [104, 97, 110, 100]))]), (eN mkTup [(eC (.str [99])), (eC (.str [70])), (eC (.str [102, 111, 111, 116]))])])) (sRet (eN (fun xs => mkObj 2 F_Puppet___init__ (xs ++ [])) [(eN mkTup [(eC (.str [98, 111, 100, 121])), (eC (.str [104, 97, 110, 100])), (eC (.str [102, 111, 111, 116]))]), (eVar 0), (eC (.str [66, 70, 72])), (eVar 1)]))) ρ := rfl
theorem u_mm_stick_man {ρ : Env} : mm_stick_man ρ = (sSeq (sAsg true 0 (eN mkTup [(eN mkTup [(eC (.str [98, 111, 100, 121])), (eC (.str [104, 97, 110, 100])), (eC (.int 4))]), (eN mkTup [(eC (.str [98, 111, 100, 121])), (eC (.str [102, 111, 111, 116])), (eC (.int 6))])])) mt_stick_man_1) ρ := rfl
theorem u_mm_two_lines {ρ : Env} : mm_two_lines ρ = (sRet (eN (fun xs => mkObj 2 F_Puppet___init__ (xs ++ [])) [(eN mkTup [(eC (.str [108, 111, 97, 100]))]), (eN mkTup []), (eC (.str [65, 66])), (eN mkTup [(eN mkTup [(eC (.str [97])), (eC (.str [65])), (eC (.str [108, 111, 97, 100]))]), (eN mkTup [(eC (.str [98])), (eC (.str [66])), (eC (.str [108, 111, 97, 100]))])])])) ρ := rfl
theorem u_mt_law_1 {ρ : Env} : mt_law_1 ρ = (sSeq (sIf (eOr (eBin (neD (sel (cany 2) (fun x y => F_Puppet___eq__ [x, y]) no2)) (eVar 4) (eN mkLst [(eN mkTup [(eC (.str [108, 111, 97, 100]))]), (eN mkTup []), (eC (.str [65, 66])), (eN mkTup [(eN mkTup [(eC (.str [97])), (eC (.str [65])), (eC (.str [108, 111, 97, 100]))]), (eN mkTup [(eC (.str [98])), (eC (.str [66])), (eC (.str [108, 111, 97, 100]))])])])) (eBin (neD (sel (cany 2) (fun x y => F_Puppet___eq__ [x, y]) no2)) (eN F_stick_man []) (eVar 2))) (sRet (eC (.bl false))) sNext) (sRet (eN allD [(eLc (iRange [(eN maxD [(eC (.int 2)), (eN minD [(eBor1 (lenB no1) 0), (eC (.int 6))])])]) (gN 5) none (eCallT F__law_right [] (eN F__law_bag [(eVar 0), (eVar 5)])) [5])]))) ρ := rfl
theorem u_mt_law_2 {ρ : Env} : mt_law_2 ρ = (sSeq (sAsg true 4 (eN mkLst [(eUn (fldD 2 0) (eVar 3)), (eUn (fldD 2 1) (eVar 3)), (eUn (fldD 2 2) (eVar 3)), (eUn (fldD 2 3) (eVar 3))])) mt_law_1) ρ := rfl
theorem u_mt_law_3 {ρ : Env} : mt_law_3 ρ = (sSeq (sIf (eBin (neD (sel (cany 2) (fun x y => F_Puppet___eq__ [x, y]) no2)) (eN mkLst [(eUn (fldD 2 2) (eVar 2)), (eUn (fldD 2 3) (eVar 2))]) (eN mkLst [(eC (.str [66, 70, 72])), (eN mkTup [(eN mkTup [(eC (.str [97])), (eC (.str [66])), (eC (.str [98, 111, 100, 121]))]), (eN mkTup [(eC (.str [98])), (eC (.str [72])), (eC (.str [104, 97, 110, 100]))]), (eN mkTup [(eC (.str [99])), (eC (.str [70])), (eC (.str [102, 111, 111, 116]))])])])) (sRet (eC (.bl false))) sNext) mt_law_2) ρ := rfl
theorem u_mt_law_4 {ρ : Env} : mt_law_4 ρ = (sSeq (sIf (eBin (neD (sel (cany 2) (fun x y => F_Puppet___eq__ [x, y]) no2)) (eN mkLst [(eUn (fldD 2 0) (eVar 2)), (eUn (fldD 2 1) (eVar 2))]) (eN mkLst [(eN mkTup [(eC (.str [98, 111, 100, 121])), (eC (.str [104, 97, 110, 100])), (eC (.str [102, 111, 111, 116]))]), (eN mkTup [(eN mkTup [(eC (.str [98, 111, 100, 121])), (eC (.str [104, 97, 110, 100])), (eC (.int 4))]), (eN mkTup [(eC (.str [98, 111, 100, 121])), (eC (.str [102, 111, 111, 116])), (eC (.int 6))])])])) (sRet (eC (.bl false))) sNext) mt_law_3) ρ := rfl
theorem u_mt_law_5 {ρ : Env} : mt_law_5 ρ = (sSeq (sPar true 2 3 (eN F_stick_man []) (eN F_two_lines [])) mt_law_4) ρ := rfl
theorem u_mt_law_6 {ρ : Env} : mt_law_6 ρ = (sSeq (sIf (eBin (neD (sel (cany 2) (fun x y => F_Puppet___eq__ [x, y]) no2)) (eN reprA [(eVar 1)]) (eN reprA [(eN mkLst [(eC (.int 6)), (eC (.int 10)), (eC (.int 4)), (eC (.int 6)), (eC (.int 6)), (eC (.int 3)), (eC (.int 8)), (eBin powD (eC (.int 10)) (eC (.int 6))), (eC (.int 6)), (eC (.int 4)), (eC (.int 8)), (eC (.int 6)), (eC (.int 4))])])) (sRet (eC (.bl false))) sNext) mt_law_5) ρ := rfl
theorem u_mt_law_7 {ρ : Env} : mt_law_7 ρ = (sSeq (sAsg true 1 (eBin (addD no2) (eVar 1) (eN mkLst [(eC (.int 6)), (eC (.int 4)), (eC (.int 8)), (eC (.int 6)), (eC (.int 4))]))) mt_law_6) ρ := rfl
theorem u_mm_law {ρ : Env} : mm_law ρ = (sSeq (sAsg true 1 (eN mkLst [(eC (.int 6)), (eC (.int 10)), (eC (.int 4)), (eC (.int 6)), (eC (.int 6)), (eC (.int 3)), (eC (.int 8)), (eC (.int 1000000))])) mt_law_7) ρ := rfl
theorem o_Puppet___eq__ {x0 x1 : D} : F_Puppet___eq__ [x0, x1] = bnd (mm_Puppet___eq__ [.sh x0, .sh x1]) fun r => endOf r.1 := by rw [q_Puppet___eq__]; exact fn_eq rfl
theorem o__law_bag {x0 x1 : D} : F__law_bag [x0, x1] = bnd (mm__law_bag [.sh x0, .sh x1, .un, .un, .un, .un]) fun r => endOf r.1 := by rw [q__law_bag]; exact fn_eq rfl
theorem o__law_indexes {x0 : D} : F__law_indexes [x0] = bnd (mm__law_indexes [.sh x0, .un]) fun r => endOf r.1 := by rw [q__law_indexes]; exact fn_eq rfl
theorem o__law_classes {x0 : D} : F__law_classes [x0] = bnd (mm__law_classes [.sh x0, .un]) fun r => endOf r.1 := by rw [q__law_classes]; exact fn_eq rfl
theorem o__law_is {x0 x1 : D} : F__law_is [x0, x1] = bnd (mm__law_is [.sh x0, .sh x1, .un, .un, .un, .un]) fun r => endOf r.1 := by rw [q__law_is]; exact fn_eq rfl
theorem o__law_draw {x0 x1 : D} : F__law_draw [x1] x0 = bnd (mm__law_draw [.ow x0, .sh x1, .un, .un, .un]) fun r => bnd (endOf r.1) fun t => bnd (ownG r.2[0]?) fun d' => .ok (t, d') := by rw [q__law_draw]; exact fnR_eq rfl (by decide)
theorem o__law_one {x0 x1 : D} : F__law_one [x1] x0 = bnd (mm__law_one [.ow x0, .sh x1]) fun r => bnd (endOf r.1) fun t => bnd (ownG r.2[0]?) fun d' => .ok (t, d') := by rw [q__law_one]; exact fnR_eq rfl (by decide)
theorem o__law_others_right {x0 x1 : D} : F__law_others_right [x0, x1] = bnd (mm__law_others_right [.sh x0, .sh x1, .un, .un, .un]) fun r => endOf r.1 := by rw [q__law_others_right]; exact fn_eq rfl
theorem o__law_values {x0 : D} : F__law_values [x0] = bnd (mm__law_values [.sh x0, .un]) fun r => endOf r.1 := by rw [q__law_values]; exact fn_eq rfl
theorem o__law_right {x0 : D} : F__law_right [] x0 = bnd (mm__law_right [.ow x0, .un, .un, .un, .un, .un, .un]) fun r => bnd (endOf r.1) fun t => bnd (ownG r.2[0]?) fun d' => .ok (t, d') := by rw [q__law_right]; exact fnR_eq rfl (by decide)
theorem o_are_great {x0 x1 x2 : D} : F_are_great [x0, x1, x2] = bnd (mm_are_great [.sh x0, .sh x1, .sh x2, .un]) fun r => endOf r.1 := by rw [q_are_great]; exact fn_eq rfl
theorem o_in_order {x0 : D} : F_in_order [x0] = bnd (mm_in_order [.sh x0, .un]) fun r => endOf r.1 := by rw [q_in_order]; exact fn_eq rfl
theorem o_check_hooks {x0 : D} : F_check_hooks [x0] = bnd (mm_check_hooks [.sh x0]) fun r => endOf r.1 := by rw [q_check_hooks]; exact fn_eq rfl
theorem o_are_small {x0 x1 x2 : D} : F_are_small [x0, x1, x2] = bnd (mm_are_small [.sh x0, .sh x1, .sh x2, .un]) fun r => endOf r.1 := by rw [q_are_small]; exact fn_eq rfl
theorem o_check_parts {x0 : D} : F_check_parts [x0] = bnd (mm_check_parts [.sh x0, .un, .un]) fun r => endOf r.1 := by rw [q_check_parts]; exact fn_eq rfl
theorem o_is_string {x0 x1 x2 x3 : D} : F_is_string [x0, x1, x2, x3] = bnd (mm_is_string [.sh x0, .sh x1, .sh x2, .sh x3]) fun r => endOf r.1 := by rw [q_is_string]; exact fn_eq rfl
theorem o_check_strings {x0 x1 x2 : D} : F_check_strings [x0, x1, x2] = bnd (mm_check_strings [.sh x0, .sh x1, .sh x2, .un, .un, .un]) fun r => endOf r.1 := by rw [q_check_strings]; exact fn_eq rfl
theorem o_is_integer {x0 : D} : F_is_integer [x0] = bnd (mm_is_integer [.sh x0]) fun r => endOf r.1 := by rw [q_is_integer]; exact fn_eq rfl
theorem o_is_number {x0 x1 : D} : F_is_number [x0, x1] = bnd (mm_is_number [.sh x0, .sh x1]) fun r => endOf r.1 := by rw [q_is_number]; exact fn_eq rfl
theorem o_is_tie {x0 x1 x2 : D} : F_is_tie [x0, x2] x1 = bnd (mm_is_tie [.sh x0, .ow x1, .sh x2, .un, .un]) fun r => bnd (endOf r.1) fun t => bnd (ownG r.2[1]?) fun d' => .ok (t, d') := by rw [q_is_tie]; exact fnR_eq rfl (by decide)
theorem o_check_ties {x0 x1 : D} : F_check_ties [x0, x1] = bnd (mm_check_ties [.sh x0, .sh x1, .un, .un, .un]) fun r => endOf r.1 := by rw [q_check_ties]; exact fn_eq rfl
theorem o_distances_of {x0 x1 : D} : F_distances_of [x0, x1] = bnd (mm_distances_of [.sh x0, .sh x1, .un, .un, .un, .un, .un, .un]) fun r => endOf r.1 := by rw [q_distances_of]; exact fn_eq rfl
theorem o_Puppet___init__ {x0 x1 x2 x3 x4 : D} : F_Puppet___init__ [x1, x2, x3, x4] x0 = bnd (mm_Puppet___init__ [.ow x0, .sh x1, .sh x2, .sh x3, .sh x4, .un]) fun r => bnd (endOf r.1) fun t => bnd (ownG r.2[0]?) fun d' => .ok (t, d') := by rw [q_Puppet___init__]; exact fnR_eq rfl (by decide)
theorem o_stick_man : F_stick_man [] = bnd (mm_stick_man [.un, .un]) fun r => endOf r.1 := by rw [q_stick_man]; exact fn_eq rfl
theorem o_two_lines : F_two_lines [] = bnd (mm_two_lines []) fun r => endOf r.1 := by rw [q_two_lines]; exact fn_eq rfl
theorem o_law {x0 : D} : F_law [x0] = bnd (mm_law [.sh x0, .un, .un, .un, .un, .un]) fun r => endOf r.1 := by rw [q_law]; exact fn_eq rfl
end DY

set_option Elab.async false
set_option linter.all false
set_option maxRecDepth 100000
set_option maxHeartbeats 4000000
namespace DY
local instance : Tb := { T := [] }
/-! ### numbers by letters -/
abbrev Nm := List (Nat × Int)
/-! ### in order -/
def canon (f : Nat → Int) : Nm := (List.range' 97 26).filterMap fun c => if f c = 0 then none else some (c, f c)
/-! ### forms -/
@[reducible] def prD (p : Nat × Int) : D := .tup [.str [p.1], .int p.2]
@[reducible] def tmD (t : Nm) : D := .tup (t.map prD)
def fmN (f : Nat → Int) : List Nat := (canon f).map (·.1)
@[reducible] def fm (c : Int) (f : Nat → Int) : D := .ins 1 [.int c, tmD (canon f), .str (fmN f)]
end DY
namespace DY
/-! ### equality of data -/
mutual
theorem eqv_refl : ∀ (n : Nat) (x : D), dok n x = true → eqv x x = true
  | _, .non, _ => rfl
  | _, .bl b, _ => by simp [eqv]
  | _, .int i, _ => by simp [eqv]
  | _, .str s, _ => by simp [eqv]
  | n + 1, .tup xs, h => by
    have h' : doks n xs = true := by simpa [dok] using h
    show eqvs xs xs = true
    exact eqvs_refl n xs h'
  | n + 1, .kt xs, h => by
    have h' : doks n xs = true := by simpa [dok] using h
    show eqvs xs xs = true
    exact eqvs_refl n xs h'
  | n + 1, .lst xs, h => by
    have h' : doks n xs = true := by simpa [dok] using h
    show eqvs xs xs = true
    exact eqvs_refl n xs h'
  | n + 1, .fls xs, h => by
    have h' : doks n xs = true := by simpa [dok] using h
    show eqvs xs xs = true
    exact eqvs_refl n xs h'
  | 0, .tup xs, h => by simp [dok] at h
  | 0, .kt xs, h => by simp [dok] at h
  | 0, .lst xs, h => by simp [dok] at h
  | 0, .fls xs, h => by simp [dok] at h
  | _, .dic xs, h => by simp [dok] at h
  | _, .dct xs, h => by simp [dok] at h
  | _, .ins c xs, h => by simp [dok] at h
  | _, .ty t, h => by simp [dok] at h
  | _, .cls t, h => by simp [dok] at h
theorem eqvs_refl : ∀ (n : Nat) (xs : List D), doks n xs = true → eqvs xs xs = true
  | _, [], _ => by simp [eqvs]
  | n, x :: xs, h => by
    have h' : dok n x = true ∧ doks n xs = true := by simpa [doks] using h
    simp only [eqvs, eqv_refl n x h'.1, eqvs_refl n xs h'.2, Bool.and_self]
end
theorem doks_all {n : Nat} : ∀ {xs : List D}, (∀ x ∈ xs, dok n x = true) → doks n xs = true
  | [], _ => by simp [doks]
  | x :: xs, h => by
    simp only [doks, h x (List.mem_cons_self ..), doks_all fun y hy => h y (List.mem_cons_of_mem _ hy), Bool.and_self]
/-! ### worths -/
end DY

set_option Elab.async false
set_option linter.all false
set_option maxRecDepth 100000
set_option maxHeartbeats 4000000
namespace DY
local macro_rules | `(tactic| exists $es,*) => do
  let ls ← es.getElems.mapM fun e => `(Lean.Parser.Tactic.simpLemma| $e:term)
  `(tactic| simp -dsimp -implicitDefEqProofs (disch := walk_at "ds") only [bnd_ok, bnd_bnd, Wn_ok, cnd_t, cnd_f, cnd_n, cnd_p, cnd_q, varG_sh, varG_ow, movG_sh, movG_ow, lookG_sh, lookG_ow, ownG_ow, get_0, get_s, set_0, set_s, ev_var, ev_mov0, ev_look, ev_c, ev_c0, ev_bin, ev_un, ev_bor, ev_borR, ev_bor1, ev_nil, ev_cons, ev_n, ev_if, ev_and, ev_or, notR_bl, ev_not, ev_chain, ev_callR, ev_callT, ev_nk, isL_ok, ev_mut, intR_i, ev_part0, ev_part1, ev_slice, seqk_nx, seqk_rt, ev_seq, ev_next, keep_tt, keep_tf, ev_asg, ev_par, ev_gN, ev_gTt, ev_gTk, ev_g0, ev_g1, ev_expr, ev_ret, ev_retV, ev_sif, ev_for, ev_put, ev_fld, fldG_0, fldG_1, fldG_2, fldG_3, fldG_4, fldG_5, end_nx, end_rt, objE_go, ev_iv, items_lst, items_tup, items_str, ev_range, rngG_1, rngG_2, LK_nx, cndO_none, cndO_some, ev_lc, add_i, add_l, sub_i, mul_i, fdiv_i, mod_i, pow_i, neg_i, lt_i, lt_s, le_i, le_s, gt_i, ge_i, eq_i, eq_s, ne_i, ne_o, isN_i, sel_t, in_c, opt_s, ixt_0, ixt_1, ixt_2, ixl_0, ixl_1, ixl_2, sl_f, sl_t, len_l, len_f, len_t, len_s, isi_int_i, isi_bool_i, isi_str_s, isi_tup_t, isi_o, abs_i, int_i, max_i, min_i, all_m, mkTup_e, mkKey_e, mkLst_e, app_e, put_l0, put_l1, put_l2, fld_0, fld_1, fld_2, fld_3, wipe_0, wipe_s, okS_un, okS_sh, okS_us, noOw_0, noOw_s, back_0, back_s, getD_0, getD_s, in_k2, nin_k2, ix_k2, put_k2, keyT_k2, enI_t, ev_en, ev_dt, u_mm_Puppet___eq__, u_mt__law_bag_1, u_mt__law_bag_2, u_mt__law_bag_3, u_mm__law_bag, u_mt__law_indexes_1, u_mt__law_indexes_2, u_mt__law_indexes_3, u_mt__law_indexes_4, u_mm__law_indexes, u_mt__law_classes_1, u_mt__law_classes_2, u_mt__law_classes_3, u_mt__law_classes_4, u_mt__law_classes_5, u_mt__law_classes_6, u_mt__law_classes_7, u_mt__law_classes_8, u_mt__law_classes_9, u_mt__law_classes_10, u_mt__law_classes_11, u_mt__law_classes_12, u_mt__law_classes_13, u_mt__law_classes_14, u_mm__law_classes, u_mt__law_is_1, u_mt__law_is_2, u_mt__law_is_3, u_mm__law_is, u_mt__law_draw_1, u_mt__law_draw_2, u_mt__law_draw_3, u_mt__law_draw_4, u_mt__law_draw_5, u_mm__law_draw, u_mm__law_one, u_mt__law_others_right_1, u_mt__law_others_right_2, u_mt__law_others_right_3, u_mt__law_others_right_4, u_mt__law_others_right_5, u_mt__law_others_right_6, u_mt__law_others_right_7, u_mt__law_others_right_8, u_mt__law_others_right_9, u_mt__law_others_right_10, u_mm__law_others_right, u_mt__law_values_1, u_mt__law_values_2, u_mt__law_values_3, u_mt__law_values_4, u_mt__law_values_5, u_mt__law_values_6, u_mt__law_values_7, u_mt__law_values_8, u_mt__law_values_9, u_mt__law_values_10, u_mt__law_values_11, u_mm__law_values, u_mt__law_right_1, u_mt__law_right_2, u_mt__law_right_3, u_mt__law_right_4, u_mt__law_right_5, u_mt__law_right_6, u_mt__law_right_7, u_mt__law_right_8, u_mt__law_right_9, u_mm__law_right, u_mm_are_great, u_mm_in_order, u_mm_check_hooks, u_mm_are_small, u_mt_check_parts_1, u_mm_check_parts, u_mm_is_string, u_mt_check_strings_1, u_mt_check_strings_2, u_mm_check_strings, u_mm_is_integer, u_mm_is_number, u_mt_is_tie_1, u_mt_is_tie_2, u_mm_is_tie, u_mt_check_ties_1, u_mt_check_ties_2, u_mm_check_ties, u_mt_distances_of_1, u_mt_distances_of_3, u_mt_distances_of_5, u_mt_distances_of_6, u_mm_distances_of, u_mt_Puppet___init___1, u_mt_Puppet___init___2, u_mt_Puppet___init___3, u_mt_Puppet___init___4, u_mt_Puppet___init___5, u_mt_Puppet___init___6, u_mt_Puppet___init___7, u_mt_Puppet___init___8, u_mm_Puppet___init__, u_mt_stick_man_1, u_mm_stick_man, u_mm_two_lines, u_mt_law_1, u_mt_law_2, u_mt_law_3, u_mt_law_4, u_mt_law_5, u_mt_law_6, u_mt_law_7, u_mm_law, decide_true, decide_false, if_true, if_false, Bool.not_true, Bool.not_false, List.length_cons, List.length_nil, Int.cast_ofNat_Int, List.nil_append, List.cons_append, List.append_nil, and_self, and_true, true_and, and_false, false_and, List.length_map, Int.reduceToNat, Int.reducePow, Int.reduceSub, Int.reduceAdd, Int.reduceMul, Int.reduceNeg, $ls,*])
open SL (nm dn gI Bd)
local instance : Tb := { T := [] }
local macro_rules | `(tactic| walk_at "ds") => `(tactic| first | assumption | omega | (simp only [List.length_map, List.length_append, List.length_cons, List.length_nil]; omega) | exact mulOk_n (by omega) (by omega) | exact divOk_b (by omega) (by omega) | (refine id ?_; with_unfolding_all rfl) | (refine id ?_; with_unfolding_all exact Nat.le_of_ble_eq_true rfl) | (simp only [noOw_s, noOw_0, okS_un, okS_sh, okS_us, get_0, get_s, Bool.and_true]; done))
--#STOP mt_distances_of_2 mt_distances_of_4
--#NEW
/-! ### bags -/
def BagOk (n : Nat) (d : D) : Prop := ∃ a b c : Int, d = .lst [.int a, .int b, .int c] ∧ 0 ≤ a ∧ 0 ≤ b ∧ b < 2147483648 ∧ 0 ≤ c ∧ c ≤ n
section
variable {γ : Type} {kk : Rv × D → R γ} {P : γ → Prop} {n : Nat} {bag : D} {w : Int}
theorem wp_draw (hb : BagOk n bag) (hn : n < 2 ^ 60) (hw : 0 < w) (hw2 : w < 2 ^ 64) (k : ∀ i d', 0 ≤ i → i < w → BagOk (n + 1) d' → Wn (kk ((.int i, false), d')) P) : Wn (bnd (F__law_draw [.int w] bag) kk) P := by
  obtain ⟨a, b, c, rfl, h1, h2, h3, h4, h5⟩ := hb
  rw [o__law_draw]
  exists bnd_ok
  refine wp_d (fun q => ?_) fun q => ?_
  · exists bnd_ok
    exact k _ _ (fm_lo _ hw) (fm_hi _ hw) ⟨a.fdiv w, b, c + 1, rfl, Int.fdiv_nonneg h1 (by omega), h2, h3, by omega, by omega⟩
  · have q1 := fm_lo (b + 104593 * (c + 1)) (j := 59951) (by decide)
    have q2 := fm_hi (b + 104593 * (c + 1)) (j := 59951) (by decide)
    exists bnd_ok
    exact k _ _ (fm_lo _ hw) (fm_hi _ hw) ⟨a, _, c + 1, rfl, h1, fm_lo _ (by decide), Int.lt_trans (fm_hi _ (by decide)) (by decide), by omega, by omega⟩
theorem wp_one {xs : List D} (hb : BagOk n bag) (hn : n < 2 ^ 60) (h0 : 0 < xs.length) (h1 : xs.length < 2 ^ 60) (k : ∀ x d', x ∈ xs → BagOk (n + 1) d' → Wn (kk ((x, false), d')) P) : Wn (bnd (F__law_one [.lst xs] bag) kk) P := by
  rw [o__law_one]
  exists bnd_ok
  refine wp_draw hb hn (by omega) (by omega) fun i d' q1 q2 hb' => ?_
  have e := ix_l q1 q2
  exists e
  exact k _ _ (List.getElem_mem _) hb'
theorem wp_bag {ns : List Int} {k : Int} {kk : Rv → R γ} (hk : 0 ≤ k) (hk2 : k ≤ 63) (h : ∀ d, BagOk 0 d → Wn (kk (d, true)) P) : Wn (bnd (F__law_bag [.fls (ns.map D.int), .int k]) kk) P := by
  rw [o__law_bag]
  have loop : ∀ (cell seed : Int), 0 ≤ seed → seed < 2147483648 → Wn (bnd (forGo (gN 4) mt__law_bag_1 (cut (ns.map D.int) none (some 7)) [.sh (.fls (ns.map D.int)), .sh (.int k), .sh (.int cell), .sh (.int seed), .un, .un]) fun x => bnd (bnd (seqk mt__law_bag_2 x.1 x.2) fun r => endOf r.1) kk) P := fun cell seed s1 s2 => by
    rw [cut_map]
    refine wp_for (fun _ ρ => ∃ (seed : Int) (s : Slot), ρ = [.sh (.fls (ns.map D.int)), .sh (.int k), .sh (.int cell), .sh (.int seed), s, .un] ∧ 0 ≤ seed ∧ seed < 2147483648) ⟨seed, _, rfl, s1, s2⟩ (fun _ x ρ _ q => ?_) fun ρ q => ?_
    · obtain ⟨seed, s, rfl, h1, h2⟩ := q
      have q1 := fm_lo x (j := 1000081) (by decide)
      have q2 := fm_hi x (j := 1000081) (by decide)
      exists bnd_ok
      exact ⟨_, _, rfl, fm_lo _ (by decide), Int.lt_trans (fm_hi _ (by decide)) (by decide)⟩
    · obtain ⟨seed, s, rfl, h1, h2⟩ := q
      have ab : 0 ≤ if cell < 0 then -cell else cell := by split <;> omega
      have q1 := fm_lo cell (j := 999907) (by decide)
      have q2 := fm_hi cell (j := 999907) (by decide)
      by_cases z1 : cell < 0
      · exists bnd_ok
        refine h _ ?_; exact ⟨_, _, 0, rfl, ab, fm_lo _ (by decide), Int.lt_trans (fm_hi _ (by decide)) (by decide), by decide, by decide⟩
      · by_cases z2 : 1000000000000000 ≤ cell
        · exists bnd_ok
          refine h _ ?_; exact ⟨_, _, 0, rfl, ab, fm_lo _ (by decide), Int.lt_trans (fm_hi _ (by decide)) (by decide), by decide, by decide⟩
        · exists bnd_ok
          refine h _ ?_; exact ⟨_, _, 0, rfl, by decide, fm_lo _ (by decide), Int.lt_trans (fm_hi _ (by decide)) (by decide), by decide, by decide⟩
  by_cases q : k < ns.length
  · have e := ix_f hk (show k < (ns.map D.int).length by rw [List.length_map]; exact q)
    exists e, List.getElem_map
    exact loop _ _ (by omega) (by omega)
  · exists bnd_ok
    exact loop _ _ (by omega) (by omega)
end
--#NEW
/-! ### ratios -/
theorem e_isint {i : Int} : F_is_integer [.int i] = .ok (.bl true, false) := by rw [o_is_integer]; exists bnd_ok
section
variable {n d n1 d1 n2 d2 m a b s t : Int}
end

local macro_rules | `(tactic| exists $es,*) => do
  let ls ← es.getElems.mapM fun e => `(Lean.Parser.Tactic.simpLemma| $e:term)
  `(tactic| simp -dsimp -implicitDefEqProofs (disch := walk_at "ds") only [bnd_ok, bnd_bnd, Wn_ok, cnd_t, cnd_f, cnd_n, cnd_p, cnd_q, varG_sh, varG_ow, movG_sh, movG_ow, lookG_sh, lookG_ow, ownG_ow, get_0, get_s, set_0, set_s, ev_var, ev_mov0, ev_look, ev_c, ev_c0, ev_bin, ev_un, ev_bor, ev_borR, ev_bor1, ev_nil, ev_cons, ev_n, ev_if, ev_and, ev_or, notR_bl, ev_not, ev_chain, ev_callR, ev_callT, ev_nk, isL_ok, ev_mut, intR_i, ev_part0, ev_part1, ev_slice, seqk_nx, seqk_rt, ev_seq, ev_next, keep_tt, keep_tf, ev_asg, ev_par, ev_gN, ev_gTt, ev_gTk, ev_g0, ev_g1, ev_expr, ev_ret, ev_retV, ev_sif, ev_for, ev_put, ev_fld, fldG_0, fldG_1, fldG_2, fldG_3, fldG_4, fldG_5, end_nx, end_rt, objE_go, ev_iv, items_lst, items_tup, items_str, ev_range, rngG_1, rngG_2, LK_nx, cndO_none, cndO_some, ev_lc, add_i, add_l, sub_i, mul_i, fdiv_i, mod_i, pow_i, neg_i, lt_i, lt_s, le_i, le_s, gt_i, ge_i, eq_i, eq_s, ne_i, ne_o, isN_i, sel_t, in_c, opt_s, ixt_0, ixt_1, ixt_2, ixl_0, ixl_1, ixl_2, sl_f, sl_t, len_l, len_f, len_t, len_s, isi_int_i, isi_bool_i, isi_str_s, isi_tup_t, isi_o, abs_i, int_i, max_i, min_i, all_m, mkTup_e, mkKey_e, mkLst_e, app_e, put_l0, put_l1, put_l2, fld_0, fld_1, fld_2, fld_3, wipe_0, wipe_s, okS_un, okS_sh, okS_us, noOw_0, noOw_s, back_0, back_s, getD_0, getD_s, in_k2, nin_k2, ix_k2, put_k2, keyT_k2, enI_t, ev_en, ev_dt, u_mm_Puppet___eq__, u_mt__law_bag_1, u_mt__law_bag_2, u_mt__law_bag_3, u_mm__law_bag, u_mt__law_indexes_1, u_mt__law_indexes_2, u_mt__law_indexes_3, u_mt__law_indexes_4, u_mm__law_indexes, u_mt__law_classes_1, u_mt__law_classes_2, u_mt__law_classes_3, u_mt__law_classes_4, u_mt__law_classes_5, u_mt__law_classes_6, u_mt__law_classes_7, u_mt__law_classes_8, u_mt__law_classes_9, u_mt__law_classes_10, u_mt__law_classes_11, u_mt__law_classes_12, u_mt__law_classes_13, u_mt__law_classes_14, u_mm__law_classes, u_mt__law_is_1, u_mt__law_is_2, u_mt__law_is_3, u_mm__law_is, u_mt__law_draw_1, u_mt__law_draw_2, u_mt__law_draw_3, u_mt__law_draw_4, u_mt__law_draw_5, u_mm__law_draw, u_mm__law_one, u_mt__law_others_right_1, u_mt__law_others_right_2, u_mt__law_others_right_3, u_mt__law_others_right_4, u_mt__law_others_right_5, u_mt__law_others_right_6, u_mt__law_others_right_7, u_mt__law_others_right_8, u_mt__law_others_right_9, u_mt__law_others_right_10, u_mm__law_others_right, u_mt__law_values_1, u_mt__law_values_2, u_mt__law_values_3, u_mt__law_values_4, u_mt__law_values_5, u_mt__law_values_6, u_mt__law_values_7, u_mt__law_values_8, u_mt__law_values_9, u_mt__law_values_10, u_mt__law_values_11, u_mm__law_values, u_mt__law_right_1, u_mt__law_right_2, u_mt__law_right_3, u_mt__law_right_4, u_mt__law_right_5, u_mt__law_right_6, u_mt__law_right_7, u_mt__law_right_8, u_mt__law_right_9, u_mm__law_right, u_mm_are_great, u_mm_in_order, u_mm_check_hooks, u_mm_are_small, u_mt_check_parts_1, u_mm_check_parts, u_mm_is_string, u_mt_check_strings_1, u_mt_check_strings_2, u_mm_check_strings, u_mm_is_integer, u_mm_is_number, u_mt_is_tie_1, u_mt_is_tie_2, u_mm_is_tie, u_mt_check_ties_1, u_mt_check_ties_2, u_mm_check_ties, u_mt_distances_of_1, u_mt_distances_of_3, u_mt_distances_of_5, u_mt_distances_of_6, u_mm_distances_of, u_mt_Puppet___init___1, u_mt_Puppet___init___2, u_mt_Puppet___init___3, u_mt_Puppet___init___4, u_mt_Puppet___init___5, u_mt_Puppet___init___6, u_mt_Puppet___init___7, u_mt_Puppet___init___8, u_mm_Puppet___init__, u_mt_stick_man_1, u_mm_stick_man, u_mm_two_lines, u_mt_law_1, u_mt_law_2, u_mt_law_3, u_mt_law_4, u_mt_law_5, u_mt_law_6, u_mt_law_7, u_mm_law, e_isint, decide_true, decide_false, if_true, if_false, Bool.not_true, Bool.not_false, List.length_cons, List.length_nil, Int.cast_ofNat_Int, List.nil_append, List.cons_append, List.append_nil, and_self, and_true, true_and, and_false, false_and, List.length_map, Int.reduceToNat, Int.reducePow, Int.reduceSub, Int.reduceAdd, Int.reduceMul, Int.reduceNeg, $ls,*])
--#NEW
/-! ### letters -/
theorem ltN1 (a b : Nat) : ltN [a] [b] = decide (a < b) := by simp [ltN]
def lowS (s : List Nat) : Bool := s.all fun c => decide (97 ≤ c) && decide (c ≤ 122)
def uppS (s : List Nat) : Bool := s.all fun c => decide (65 ≤ c) && decide (c ≤ 90)
theorem fm_some {α : Type} (f : α → Bool) (xs : List α) : xs.filterMap (fun x => some (D.bl (f x))) = (xs.map f).map D.bl := by
  rw [List.filterMap_eq_map']; simp
theorem all_id {α : Type} (f : α → Bool) (xs : List α) : (xs.map f).all id = xs.all f := by rw [List.all_map]; rfl
theorem e_low {s : List Nat} {a b : Int} (hs : s.length ≤ 1000) (h1 : a ≤ s.length) (h2 : s.length ≤ b) : F_are_small [.str s, .int a, .int b] = .ok (.bl (lowS s), false) := by
  rw [o_are_small]
  exists ltN1
  rw [lc_eq (fun c => some (.bl (decide (97 ≤ c) && decide (c ≤ 122)))) rfl hs (fun x _ => ⟨[.sh (.str s), .sh (.int a), .sh (.int b), .sh (.str [x])], ?_, rfl, rfl⟩), fm_some]
  · exists ltN1
    rw [all_id]; rfl
  · by_cases q : 97 ≤ x
    · exists ltN1
      have : ¬ x < 97 := by omega
      rw [decide_eq_true q, ← decide_not, Bool.true_and, decide_eq_decide.mpr (show ¬ 122 < x ↔ x ≤ 122 by omega)]
    · have : x < 97 := by omega
      exists ltN1
      rw [decide_eq_false q]; rfl
theorem e_low1 {c : Nat} (h1 : 97 ≤ c) (h2 : c ≤ 122) : F_are_small [.str [c], .int 1, .int 1] = .ok (.bl true, false) := by
  rw [e_low (by simp : [c].length ≤ 1000) (by simp) (by simp)]
  unfold lowS
  rw [List.all_cons, decide_eq_true h1, decide_eq_true h2]; rfl
theorem e_upp {s : List Nat} {a b : Int} (hs : s.length ≤ 1000) (h1 : a ≤ s.length) (h2 : s.length ≤ b) : F_are_great [.str s, .int a, .int b] = .ok (.bl (uppS s), false) := by
  rw [o_are_great]
  exists ltN1
  rw [lc_eq (fun c => some (.bl (decide (65 ≤ c) && decide (c ≤ 90)))) rfl hs (fun x _ => ⟨[.sh (.str s), .sh (.int a), .sh (.int b), .sh (.str [x])], ?_, rfl, rfl⟩), fm_some]
  · exists ltN1
    rw [all_id]; rfl
  · by_cases q : 65 ≤ x
    · exists ltN1
      have : ¬ x < 65 := by omega
      rw [decide_eq_true q, ← decide_not, Bool.true_and, decide_eq_decide.mpr (show ¬ 90 < x ↔ x ≤ 90 by omega)]
    · have : x < 65 := by omega
      exists ltN1
      rw [decide_eq_false q]; rfl
theorem e_upp1 {c : Nat} (h1 : 65 ≤ c) (h2 : c ≤ 90) : F_are_great [.str [c], .int 1, .int 1] = .ok (.bl true, false) := by
  rw [e_upp (by simp : [c].length ≤ 1000) (by simp) (by simp)]
  unfold uppS
  rw [List.all_cons, decide_eq_true h1, decide_eq_true h2]; rfl
/-! ### puppets: their data -/
abbrev Sg := Nat × Nat × Wd
@[reducible] def tieD (t : Tie) : D := .tup [.str t.1, .str t.2.1, .int t.2.2]
@[reducible] def sgD (s : Sg) : D := .tup [.str [s.1], .str [s.2.1], .str s.2.2]
@[reducible] def psD (ps : List Wd) : D := .tup (ps.map D.str)
@[reducible] def tsD (ts : List Tie) : D := .tup (ts.map tieD)
@[reducible] def ssD (ss : List Sg) : D := .tup (ss.map sgD)
structure PsOk (ps : List Wd) : Prop where
  nd : ps.Nodup
  l1 : 1 ≤ ps.length
  l2 : ps.length ≤ 6
  wl : ∀ w ∈ ps, 2 ≤ w.length ∧ w.length ≤ 8 ∧ lowS w = true
structure TsOk (ps : List Wd) (ts : List Tie) : Prop where
  gr : Gr ps ts
  irr : ∀ t ∈ ts, t.1 ≠ t.2.1
  uq : ts.Pairwise fun s t => ¬ (s.1 = t.1 ∧ s.2.1 = t.2.1) ∧ ¬ (s.1 = t.2.1 ∧ s.2.1 = t.1)
  bd : ∀ t ∈ ts, t.2.2 ≤ 1000000
  len : ts.length ≤ 10
structure HkOk (hk : List Nat) : Prop where
  l1 : 1 ≤ hk.length
  l2 : hk.length ≤ 4
  up : ∀ c ∈ hk, 65 ≤ c ∧ c ≤ 90
  pw : hk.Pairwise (· < ·)
structure SsOk (ps : List Wd) (hk : List Nat) (ss : List Sg) : Prop where
  l1 : 1 ≤ ss.length
  l2 : ss.length ≤ 6
  nm : ∀ s ∈ ss, 97 ≤ s.1 ∧ s.1 ≤ 122
  hk : ∀ s ∈ ss, s.2.1 ∈ hk
  pt : ∀ s ∈ ss, s.2.2 ∈ ps
  pw : ss.Pairwise fun s t => s.1 < t.1
section
variable {ps : List Wd} {ts : List Tie} {hk : List Nat} {ss : List Sg} {w a b : Wd} {n : Nat} {r : Int}
theorem cut_take {α : Type} (xs : List α) (n : Nat) : cut xs none (some (n : Int)) = xs.take n := by
  unfold cut sIx
  have h : ¬ ((n : Int) < 0) := by omega
  simp only [if_neg h, Int.toNat_natCast, List.drop_zero, Nat.sub_zero]
  rcases Nat.le_total n xs.length with q | q
  · rw [Nat.min_eq_left q]
  · rw [Nat.min_eq_right q, List.take_length, List.take_of_length_le q]
theorem take_mapW (n : Nat) (l : List Wd) : (l.map D.str).take n = (l.take n).map D.str := (List.map_take ..).symm
theorem eqv_strs (l : List Wd) (w : Wd) : ((l.map D.str).any fun z => eqv z (.str w)) = decide (w ∈ l) := by
  rw [List.any_map]
  induction l with
  | nil => rfl
  | cons x l ih =>
    rw [List.any_cons, ih]
    show (eqv (.str x) (.str w) || _) = _
    rw [eqv_s]
    by_cases h : x = w
    · subst h; simp
    · simp [h, Ne.symm h]
theorem flat_strs (l : List Wd) : (l.map D.str).all flat = true := by
  rw [List.all_eq_true]
  intro x hx
  obtain ⟨_, _, rfl⟩ := List.mem_map.mp hx
  rfl
theorem in_ps : inD (.str w) (psD ps) = .ok (.bl (decide (w ∈ ps)), false) := by
  rw [psD, in_t (by rw [flat_strs]; rfl), eqv_strs]
theorem nin_ps : ninD (.str w) (psD ps) = .ok (.bl (!decide (w ∈ ps)), false) := by
  rw [psD, nin_t (by rw [flat_strs]; rfl), eqv_strs]
theorem e_parts (h : PsOk ps) : F_check_parts [psD ps] = .ok (.non, false) := by
  have l1 := h.l1
  have l2 := h.l2
  refine Wn.eq ?_
  rw [o_check_parts]
  exists ltN1, in_ps, nin_ps
  refine wp_forE (fun _ ρ => ∃ s1 s2, ρ = [.sh (psD ps), s1, s2]) ⟨_, _, rfl⟩ (fun n x ρ hx q => ?_) fun ρ q => ?_
  · obtain ⟨s1, s2, rfl⟩ := q
    have mem := List.mem_of_getElem? hx
    obtain ⟨w1, w2, w3⟩ := h.wl x mem
    have ni : x ∉ ps.take n := fun z => by
      have nd := h.nd.sublist (List.take_sublist (n + 1) ps)
      rw [List.take_add_one, hx, List.nodup_append] at nd
      exact nd.2.2 _ z _ (by simp) rfl
    exists ltN1, in_ps, nin_ps, e_low (s := x) (a := 2) (b := 8) (by omega) (by omega) (by omega), w3, cut_take, take_mapW
    exact ⟨_, _, rfl⟩
  · obtain ⟨s1, s2, rfl⟩ := q
    exists ltN1, in_ps, nin_ps
theorem e_number (h1 : 0 ≤ r) (h2 : r ≤ 1000000) : F_is_number [.int r, .int 1000000] = .ok (.bl true, false) := by
  rw [o_is_number]
  exists ltN1, in_ps, nin_ps
  rw [decide_eq_true h2]
@[reducible] def prT (p : Wd × Wd) : D := .tup [.str p.1, .str p.2]
theorem sok_low (h : lowS w = true) : sok w = true := by
  unfold sok lowS at *
  rw [List.all_eq_true] at *
  intro c hc
  have := h c hc
  rw [Bool.and_eq_true, decide_eq_true_eq, decide_eq_true_eq] at this
  exact decide_eq_true (by omega)
theorem nin_pairs {l : List (Wd × Wd)} (ha : lowS a = true) (hb : lowS b = true) (hl : ∀ p ∈ l, lowS p.1 = true ∧ lowS p.2 = true) : ninD (.kt [.str a, .str b]) (.lst (l.map prT)) = .ok (.bl (!decide ((a, b) ∈ l)), false) := by
  have d1 : dok dep (.kt [.str a, .str b]) = true := by
    show dok 40 (.kt [.str a, .str b]) = true
    simp only [dok, doks, sok_low ha, sok_low hb]; rfl
  have d2 : doks dep (l.map prT) = true := doks_all fun x hx => by
    obtain ⟨p, hp, rfl⟩ := List.mem_map.mp hx
    show dok 40 (prT p) = true
    simp only [dok, doks, sok_low (hl p hp).1, sok_low (hl p hp).2]; rfl
  rw [nin_l (by rw [d1, d2]; rfl)]
  congr 4
  rw [List.any_map]
  clear d2 hl
  induction l with
  | nil => rfl
  | cons x l ih =>
    rw [List.any_cons, ih]
    have e : (((fun z => eqv z (D.kt [.str a, .str b])) ∘ prT) x) = decide (x = (a, b)) := by
      show eqvs [D.str x.1, D.str x.2] [D.str a, D.str b] = _
      simp only [eqvs, eqv_s]
      obtain ⟨x1, x2⟩ := x
      rw [Bool.eq_iff_iff]; simp
    rw [e]
    by_cases h : x = (a, b)
    · subst h; simp
    · simp [h, Ne.symm h]
theorem e_istie {t : Tie} {l : List (Wd × Wd)} (hp : PsOk ps) (h1 : t.1 ∈ ps) (h2 : t.2.1 ∈ ps) (h3 : 0 ≤ t.2.2) (h4 : t.2.2 ≤ 1000000) (h5 : t.1 ≠ t.2.1) (h6 : (t.1, t.2.1) ∉ l) (h7 : (t.2.1, t.1) ∉ l) (hl : ∀ p ∈ l, lowS p.1 = true ∧ lowS p.2 = true) : F_is_tie [psD ps, tieD t] (.lst (l.map prT)) = .ok ((.bl true, false), .lst (l.map prT)) := by
  have w1 := (hp.wl _ h1).2.2
  have w2 := (hp.wl _ h2).2.2
  rw [o_is_tie]
  exists ltN1, in_ps, nin_ps, e_number h3 h4, nin_pairs w1 w2 hl, nin_pairs w2 w1 hl
  simp [h7]
theorem e_ties (hp : PsOk ps) (h : TsOk ps ts) : F_check_ties [psD ps, tsD ts] = .ok (.non, false) := by
  have l := h.len
  refine Wn.eq ?_
  rw [o_check_ties]
  exists ltN1, in_ps, nin_ps
  refine wp_forE (fun n ρ => ∃ s3 s4, ρ = [.sh (psD ps), .sh (tsD ts), .ow (.lst (((ts.take n).map fun t => (t.1, t.2.1)).map prT)), s3, s4]) ⟨_, _, rfl⟩ (fun n x ρ hx q => ?_) fun ρ q => ?_
  · obtain ⟨s1, s2, rfl⟩ := q
    have mem := List.mem_of_getElem? hx
    have g := h.gr
    have key : ∀ p ∈ (ts.take n).map fun t => (t.1, t.2.1), lowS p.1 = true ∧ lowS p.2 = true := fun p hp' => by
      obtain ⟨t, ht, rfl⟩ := List.mem_map.mp hp'
      have m := List.mem_of_mem_take ht
      exact ⟨(hp.wl _ (g.fst t m)).2.2, (hp.wl _ (g.snd t m)).2.2⟩
    have uq : ∀ t ∈ ts.take n, ¬ (t.1 = x.1 ∧ t.2.1 = x.2.1) ∧ ¬ (t.1 = x.2.1 ∧ t.2.1 = x.1) := fun t ht => by
      have pw := h.uq.sublist (List.take_sublist (n + 1) ts)
      rw [List.take_add_one, hx, List.pairwise_append] at pw
      exact pw.2.2 t ht x (by simp)
    have n1 : (x.1, x.2.1) ∉ (ts.take n).map fun t => (t.1, t.2.1) := fun z => by
      obtain ⟨t, ht, e⟩ := List.mem_map.mp z
      injection e with e1 e2
      exact (uq t ht).1 ⟨e1, e2⟩
    have n2 : (x.2.1, x.1) ∉ (ts.take n).map fun t => (t.1, t.2.1) := fun z => by
      obtain ⟨t, ht, e⟩ := List.mem_map.mp z
      injection e with e1 e2
      exact (uq t ht).2 ⟨e1, e2⟩
    have ll : (ts.take n).length ≤ 10 := by rw [List.length_take]; omega
    exists ltN1, in_ps, nin_ps, e_istie hp (g.fst x mem) (g.snd x mem) (g.pos x mem) (h.bd x mem) (h.irr x mem) n1 n2 key
    exact ⟨.sh (.int n), .sh (tieD x), by rw [List.take_add_one, hx]; simp⟩
  · obtain ⟨s1, s2, rfl⟩ := q
    exists ltN1, in_ps, nin_ps
theorem rng_from (lo : Int) (n : Nat) : rng lo n = (List.range n).map fun (i : Nat) => D.int (lo + i) := by
  induction n generalizing lo with
  | zero => rfl
  | succ n ih =>
    rw [rng, ih, List.range_succ_eq_map, List.map_cons, List.map_map]
    congr 1
    · simp
    · refine List.map_congr_left fun i _ => ?_
      show D.int (lo + 1 + i) = D.int (lo + ((i + 1 : Nat) : Int))
      congr 1
      omega
theorem rng_map (n : Nat) : rng 0 n = (List.range n).map fun (i : Nat) => D.int i := by
  rw [rng_from]
  refine List.map_congr_left fun i _ => ?_
  rw [Int.zero_add]
theorem all_true {α : Type} (l : List α) : allD [.lst (l.map fun _ => D.bl true)] = .ok (.bl true, false) := by
  have := all_m (l := l.map fun _ => true)
  rw [List.map_map] at this
  rw [show (l.map fun _ => D.bl true) = l.map (D.bl ∘ fun _ => true) from rfl, this]
  simp
theorem fm_map {α : Type} (f : α → D) (xs : List α) : xs.filterMap (fun x => some (f x)) = xs.map f := congrFun List.filterMap_eq_map' xs
theorem e_order {s : List Nat} (hl : s.length ≤ 100) (pw : s.Pairwise (· < ·)) : F_in_order [.str s] = .ok (.bl true, false) := by
  rw [o_in_order]
  exists ltN1, in_ps, nin_ps, rng_from
  rw [lc_eq (fun _ => some (.bl true)) rfl (by rw [List.length_range]; omega) (fun i hi => ⟨[.sh (.str s), .sh (.int (1 + (i : Nat)))], ?_, rfl, rfl⟩), fm_map]
  · exists ltN1, in_ps, nin_ps, all_true
  · have hi := List.mem_range.mp hi
    have h1 : i + 1 < s.length := by omega
    have e1 := ix_s (a := s) (i := (1 + (i : Int)) - 1) (by omega) (by omega) (by omega)
    have e2 := ix_s (a := s) (i := 1 + (i : Int)) (by omega) (by omega) (by omega)
    have lt : s[((1 + (i : Int)) - 1).toNat]'(by omega) < s[(1 + (i : Int)).toNat]'(by omega) := List.pairwise_iff_getElem.mp pw _ _ _ _ (by omega)
    exists ltN1, in_ps, nin_ps, e1, e2
    rw [decide_eq_true lt]
theorem e_hooks (h : HkOk hk) : F_check_hooks [.str hk] = .ok (.non, false) := by
  have l1 := h.l1
  have l2 := h.l2
  have up : uppS hk = true := by
    unfold uppS
    rw [List.all_eq_true]
    intro c hc
    have := h.up c hc
    rw [decide_eq_true this.1, decide_eq_true this.2]; rfl
  rw [o_check_hooks]
  exists ltN1, in_ps, nin_ps, e_upp (s := hk) (a := 1) (b := 4) (by omega) (by omega) (by omega), up, e_order (by omega) h.pw
theorem e_isstring {s : Sg} {bf : List Nat} (h1 : 97 ≤ s.1 ∧ s.1 ≤ 122) (h2 : s.2.1 ∈ hk) (h3 : s.2.2 ∈ ps) (hu : 65 ≤ s.2.1 ∧ s.2.1 ≤ 90) (hb : ltN bf [s.1] = true) : F_is_string [psD ps, .str hk, .str bf, sgD s] = .ok (.bl true, false) := by
  rw [o_is_string]
  exists ltN1, in_ps, nin_ps, e_low1 h1.1 h1.2, hb, e_upp1 hu.1 hu.2
  simp [h3]
theorem e_strings (hh : HkOk hk) (h : SsOk ps hk ss) : F_check_strings [psD ps, .str hk, ssD ss] = .ok (.non, false) := by
  have l1 := h.l1
  have l2 := h.l2
  refine Wn.eq ?_
  rw [o_check_strings]
  exists ltN1, in_ps, nin_ps
  refine wp_forE (fun k ρ => ∃ bf s4 s5, ρ = [.sh (psD ps), .sh (.str hk), .sh (ssD ss), .sh (.str bf), s4, s5] ∧ (bf = [] ∨ ∃ c, bf = [c] ∧ ∀ p ∈ ss.drop k, c < p.1)) ⟨[], _, _, rfl, .inl rfl⟩ (fun k x ρ hx q => ?_) fun ρ q => ?_
  · obtain ⟨bf, s4, s5, rfl, hb⟩ := q
    have mem := List.mem_of_getElem? hx
    have dr : ss.drop k = x :: ss.drop (k + 1) := by
      obtain ⟨hl, e⟩ := List.getElem?_eq_some_iff.mp hx
      rw [List.drop_eq_getElem_cons hl, e]
    have lb : ltN bf [x.1] = true := by
      rcases hb with rfl | ⟨c, rfl, hc⟩
      · rfl
      · rw [ltN1]; exact decide_eq_true (hc x (by rw [dr]; exact List.mem_cons_self ..))
    exists ltN1, in_ps, nin_ps, e_isstring (h.nm x mem) (h.hk x mem) (h.pt x mem) (hh.up _ (h.hk x mem)) lb
    refine ⟨_, _, _, rfl, .inr ⟨x.1, rfl, ?_⟩⟩
    have := h.pw.drop (i := k)
    rw [dr, List.pairwise_cons] at this
    exact this.1
  · obtain ⟨bf, s4, s5, rfl, _⟩ := q
    exists ltN1, in_ps, nin_ps
end

local macro_rules | `(tactic| exists $es,*) => do
  let ls ← es.getElems.mapM fun e => `(Lean.Parser.Tactic.simpLemma| $e:term)
  `(tactic| simp -dsimp -implicitDefEqProofs (disch := walk_at "ds") only [bnd_ok, bnd_bnd, Wn_ok, cnd_t, cnd_f, cnd_n, cnd_p, cnd_q, varG_sh, varG_ow, movG_sh, movG_ow, lookG_sh, lookG_ow, ownG_ow, get_0, get_s, set_0, set_s, ev_var, ev_mov0, ev_look, ev_c, ev_c0, ev_bin, ev_un, ev_bor, ev_borR, ev_bor1, ev_nil, ev_cons, ev_n, ev_if, ev_and, ev_or, notR_bl, ev_not, ev_chain, ev_callR, ev_callT, ev_nk, isL_ok, ev_mut, intR_i, ev_part0, ev_part1, ev_slice, seqk_nx, seqk_rt, ev_seq, ev_next, keep_tt, keep_tf, ev_asg, ev_par, ev_gN, ev_gTt, ev_gTk, ev_g0, ev_g1, ev_expr, ev_ret, ev_retV, ev_sif, ev_for, ev_put, ev_fld, fldG_0, fldG_1, fldG_2, fldG_3, fldG_4, fldG_5, end_nx, end_rt, objE_go, ev_iv, items_lst, items_tup, items_str, ev_range, rngG_1, rngG_2, LK_nx, cndO_none, cndO_some, ev_lc, add_i, add_l, sub_i, mul_i, fdiv_i, mod_i, pow_i, neg_i, lt_i, lt_s, le_i, le_s, gt_i, ge_i, eq_i, eq_s, ne_i, ne_o, isN_i, sel_t, in_c, opt_s, ixt_0, ixt_1, ixt_2, ixl_0, ixl_1, ixl_2, sl_f, sl_t, len_l, len_f, len_t, len_s, isi_int_i, isi_bool_i, isi_str_s, isi_tup_t, isi_o, abs_i, int_i, max_i, min_i, all_m, mkTup_e, mkKey_e, mkLst_e, app_e, put_l0, put_l1, put_l2, fld_0, fld_1, fld_2, fld_3, wipe_0, wipe_s, okS_un, okS_sh, okS_us, noOw_0, noOw_s, back_0, back_s, getD_0, getD_s, in_k2, nin_k2, ix_k2, put_k2, keyT_k2, enI_t, ev_en, ev_dt, u_mm_Puppet___eq__, u_mt__law_bag_1, u_mt__law_bag_2, u_mt__law_bag_3, u_mm__law_bag, u_mt__law_indexes_1, u_mt__law_indexes_2, u_mt__law_indexes_3, u_mt__law_indexes_4, u_mm__law_indexes, u_mt__law_classes_1, u_mt__law_classes_2, u_mt__law_classes_3, u_mt__law_classes_4, u_mt__law_classes_5, u_mt__law_classes_6, u_mt__law_classes_7, u_mt__law_classes_8, u_mt__law_classes_9, u_mt__law_classes_10, u_mt__law_classes_11, u_mt__law_classes_12, u_mt__law_classes_13, u_mt__law_classes_14, u_mm__law_classes, u_mt__law_is_1, u_mt__law_is_2, u_mt__law_is_3, u_mm__law_is, u_mt__law_draw_1, u_mt__law_draw_2, u_mt__law_draw_3, u_mt__law_draw_4, u_mt__law_draw_5, u_mm__law_draw, u_mm__law_one, u_mt__law_others_right_1, u_mt__law_others_right_2, u_mt__law_others_right_3, u_mt__law_others_right_4, u_mt__law_others_right_5, u_mt__law_others_right_6, u_mt__law_others_right_7, u_mt__law_others_right_8, u_mt__law_others_right_9, u_mt__law_others_right_10, u_mm__law_others_right, u_mt__law_values_1, u_mt__law_values_2, u_mt__law_values_3, u_mt__law_values_4, u_mt__law_values_5, u_mt__law_values_6, u_mt__law_values_7, u_mt__law_values_8, u_mt__law_values_9, u_mt__law_values_10, u_mt__law_values_11, u_mm__law_values, u_mt__law_right_1, u_mt__law_right_2, u_mt__law_right_3, u_mt__law_right_4, u_mt__law_right_5, u_mt__law_right_6, u_mt__law_right_7, u_mt__law_right_8, u_mt__law_right_9, u_mm__law_right, u_mm_are_great, u_mm_in_order, u_mm_check_hooks, u_mm_are_small, u_mt_check_parts_1, u_mm_check_parts, u_mm_is_string, u_mt_check_strings_1, u_mt_check_strings_2, u_mm_check_strings, u_mm_is_integer, u_mm_is_number, u_mt_is_tie_1, u_mt_is_tie_2, u_mm_is_tie, u_mt_check_ties_1, u_mt_check_ties_2, u_mm_check_ties, u_mt_distances_of_1, u_mt_distances_of_3, u_mt_distances_of_5, u_mt_distances_of_6, u_mm_distances_of, u_mt_Puppet___init___1, u_mt_Puppet___init___2, u_mt_Puppet___init___3, u_mt_Puppet___init___4, u_mt_Puppet___init___5, u_mt_Puppet___init___6, u_mt_Puppet___init___7, u_mt_Puppet___init___8, u_mm_Puppet___init__, u_mt_stick_man_1, u_mm_stick_man, u_mm_two_lines, u_mt_law_1, u_mt_law_2, u_mt_law_3, u_mt_law_4, u_mt_law_5, u_mt_law_6, u_mt_law_7, u_mm_law, e_isint, ltN1, in_ps, nin_ps, decide_true, decide_false, if_true, if_false, Bool.not_true, Bool.not_false, List.length_cons, List.length_nil, Int.cast_ofNat_Int, List.nil_append, List.cons_append, List.append_nil, and_self, and_true, true_and, and_false, false_and, List.length_map, Int.reduceToNat, Int.reducePow, Int.reduceSub, Int.reduceAdd, Int.reduceMul, Int.reduceNeg, $ls,*])
--#NEW
/-! ### distances -/
section
variable {ps : List Wd} {ts : List Tie} {kvs : List (List Ky × D)} {d : Wd → Wd → Option Int} {p q m : Wd}
/-- one pair of parts -/
theorem r_pair {s0 s1 s5 s7 : Slot} (hk : DctOk kvs d) (hl : kvs.length < 1000) : Wn (mt_distances_of_2 [s0, s1, .ow (.dct kvs), .sh (.str p), .sh (.str q), s5, .sh (.str m), s7]) fun r => r.1 = .nx ∧ ∃ kvs' s7', r.2 = [s0, s1, .ow (.dct kvs'), .sh (.str p), .sh (.str q), s5, .sh (.str m), s7'] ∧ kvs'.length ≤ kvs.length + 1 ∧ DctOk kvs' (up2 d p q (mnO (d p q) (plO (d p m) (d m q)))) := by
  have stay : ∀ x, x = d p q → up2 d p q x = d := fun x hx => by
    funext a b
    unfold up2
    split
    · rename_i e; rw [hx, e.1, e.2]
    · rfl
  have e1 := hk p m
  have e2 := hk m q
  have e3 := hk p q
  cases z1 : d p m with
  | none =>
    rw [z1] at e1
    exists u_mt_distances_of_2, e1, Option.map_none, Option.isSome_none
    refine ⟨kvs, s7, rfl, by omega, ?_⟩
    rw [stay _ (by cases d p q <;> rfl)]; exact hk
  | some x =>
    rw [z1] at e1
    cases z2 : d m q with
    | none =>
      rw [z2] at e2
      exists u_mt_distances_of_2, e1, e2, Option.map_some, Option.map_none, Option.isSome_some, Option.isSome_none
      refine ⟨kvs, s7, rfl, by omega, ?_⟩
      rw [stay _ (by cases d p q <;> rfl)]; exact hk
    | some y =>
      rw [z2] at e2
      cases z3 : d p q with
      | none =>
        rw [z3] at e3
        exists u_mt_distances_of_2, e1, e2, e3, Option.map_some, Option.map_none, Option.isSome_some, Option.isSome_none
        exact ⟨_, _, rfl, dput_le, hk.put p q (x + y)⟩
      | some z =>
        rw [z3] at e3
        by_cases lt : x + y < z
        · exists u_mt_distances_of_2, e1, e2, e3, Option.map_some, Option.map_none, Option.isSome_some, Option.isSome_none
          refine ⟨_, _, rfl, dput_le, ?_⟩
          show DctOk _ (up2 d p q (some (if x + y < z then x + y else z)))
          rw [if_pos lt]
          exact hk.put p q (x + y)
        · exists u_mt_distances_of_2, e1, e2, e3, Option.map_some, Option.map_none, Option.isSome_some, Option.isSome_none
          refine ⟨kvs, _, rfl, by omega, ?_⟩
          rw [stay _ (by show some (if x + y < z then x + y else z) = _; rw [if_neg lt, z3])]; exact hk
/-- what is done of the pairs behind a middle -/
def Done (ps : List Wd) (d0 : Wd → Wd → Option Int) (m : Wd) (S : Wd → Wd → Prop) (d : Wd → Wd → Option Int) : Prop := ∀ a ∈ ps, ∀ b ∈ ps, (S a b → d a b = mnO (d0 a b) (plO (d0 a m) (d0 m b))) ∧ (¬ S a b → d a b = d0 a b)
theorem mn_self (x : Option Int) : mnO x (plO x (some 0)) = x := by
  cases x with
  | none => rfl
  | some x => show some (if x + 0 < x then x + 0 else x) = some x; rw [if_neg (by omega)]
theorem mn_self' (x : Option Int) : mnO x (plO (some 0) x) = x := by
  cases x with
  | none => rfl
  | some x => show some (if 0 + x < x then 0 + x else x) = some x; rw [if_neg (by omega)]
open Classical in
theorem Done.step {d0 : Wd → Wd → Option Int} {S S' : Wd → Wd → Prop} (h : Done ps d0 m S d) (hm : m ∈ ps) (hp : p ∈ ps) (hq : q ∈ ps) (h0 : d0 m m = some 0) (hn : ¬ S p q) (hS : ∀ a b, S' a b ↔ S a b ∨ (a = p ∧ b = q)) : Done ps d0 m S' (up2 d p q (mnO (d p q) (plO (d p m) (d m q)))) := by
  have epm : d p m = d0 p m := by
    by_cases z : S p m
    · rw [(h p hp m hm).1 z, h0, mn_self]
    · exact (h p hp m hm).2 z
  have emq : d m q = d0 m q := by
    by_cases z : S m q
    · rw [(h m hm q hq).1 z, h0, mn_self']
    · exact (h m hm q hq).2 z
  have epq : d p q = d0 p q := (h p hp q hq).2 hn
  intro a ha b hb
  unfold up2
  rw [epm, emq, epq]
  by_cases e : a = p ∧ b = q
  · rw [if_pos e]
    obtain ⟨rfl, rfl⟩ := e
    exact ⟨fun _ => rfl, fun z => absurd ((hS a b).mpr (.inr ⟨rfl, rfl⟩)) z⟩
  · rw [if_neg e]
    refine ⟨fun z => (h a ha b hb).1 (((hS a b).mp z).elim id fun z => absurd z e), fun z => (h a ha b hb).2 fun y => z ((hS a b).mpr (.inl y))⟩
theorem mem_takeS {α : Type} {xs : List α} {n : Nat} {x y : α} (hx : xs[n]? = some x) : y ∈ xs.take (n + 1) ↔ y ∈ xs.take n ∨ y = x := by
  rw [List.take_add_one, hx]
  simp
theorem nd_take {xs : List Wd} {n : Nat} {x : Wd} (nd : xs.Nodup) (hx : xs[n]? = some x) : x ∉ xs.take n := fun z => by
  have nd := nd.sublist (List.take_sublist (n + 1) xs)
  rw [List.take_add_one, hx, List.nodup_append] at nd
  exact nd.2.2 _ z _ (by simp) rfl
theorem r_middle {s1 s3 s4 s5 s7 : Slot} {d0 : Wd → Wd → Option Int} (nd : ps.Nodup) (hl6 : ps.length ≤ 6) (hm : m ∈ ps) (h0 : d0 m m = some 0) (hk : DctOk kvs d0) (hl : kvs.length < 900) : Wn (mt_distances_of_4 [.sh (psD ps), s1, .ow (.dct kvs), s3, s4, s5, .sh (.str m), s7]) fun r => r.1 = .nx ∧ ∃ kvs' d' s3 s4 s7', r.2 = [.sh (psD ps), s1, .ow (.dct kvs'), s3, s4, s5, .sh (.str m), s7'] ∧ kvs'.length ≤ kvs.length + 36 ∧ DctOk kvs' d' ∧ ∀ a ∈ ps, ∀ b ∈ ps, d' a b = mnO (d0 a b) (plO (d0 a m) (d0 m b)) := by
  rw [show mt_distances_of_4 _ = bnd (mt_distances_of_4 _) .ok from by cases mt_distances_of_4 _ <;> rfl]
  exists u_mt_distances_of_4
  refine wp_for (fun i ρ => ∃ kvs' d' s3 s4 s7', ρ = [.sh (psD ps), s1, .ow (.dct kvs'), s3, s4, s5, .sh (.str m), s7'] ∧ kvs'.length ≤ kvs.length + 6 * i ∧ DctOk kvs' d' ∧ Done ps d0 m (fun a b => a ∈ ps.take i) d') ⟨kvs, d0, _, _, _, rfl, by omega, hk, fun a _ b _ => ⟨fun z => by simp at z, fun _ => rfl⟩⟩ (fun i p ρ hp z => ?_) fun ρ z => ?_
  · obtain ⟨kvs1, d1, t3, t4, t7, rfl, l1, k1, D1⟩ := z
    have mp := List.mem_of_getElem? hp
    have hi : i < ps.length := (List.getElem?_eq_some_iff.mp hp).1
    rw [show (bnd (gN 3 (.str p) [.sh (psD ps), s1, .ow (.dct kvs1), t3, t4, s5, .sh (.str m), t7]) mt_distances_of_3) = bnd (bnd (gN 3 (.str p) [.sh (psD ps), s1, .ow (.dct kvs1), t3, t4, s5, .sh (.str m), t7]) mt_distances_of_3) .ok from by cases bnd (gN 3 (.str p) _) mt_distances_of_3 <;> rfl]
    exists bnd_ok
    refine wp_for (fun j ρ => ∃ kvs' d' s4 s7', ρ = [.sh (psD ps), s1, .ow (.dct kvs'), .sh (.str p), s4, s5, .sh (.str m), s7'] ∧ kvs'.length ≤ kvs.length + 6 * i + j ∧ DctOk kvs' d' ∧ Done ps d0 m (fun a b => a ∈ ps.take i ∨ (a = p ∧ b ∈ ps.take j)) d') ⟨kvs1, d1, _, _, rfl, by omega, k1, ?_⟩ (fun j q ρ hq z => ?_) fun ρ z => ?_
    · simpa using D1
    · obtain ⟨kvs2, d2, t4, t7, rfl, l2, k2', D2⟩ := z
      have mq := List.mem_of_getElem? hq
      have hj : j < ps.length := (List.getElem?_eq_some_iff.mp hq).1
      simp -dsimp only [ev_gN, set_0, set_s, bnd_ok]
      refine (r_pair k2' (by omega)).mono fun r z => ?_
      obtain ⟨z1, kvs3, t7', z2, z3, z4⟩ := z
      obtain ⟨o, ρ'⟩ := r
      dsimp only at z1 z2
      subst z1 z2
      refine ⟨kvs3, _, _, t7', rfl, by omega, z4, D2.step hm mp mq h0 ?_ fun a b => ?_⟩
      · rintro (z | ⟨_, z⟩)
        · exact nd_take nd hp z
        · exact nd_take nd hq z
      · rw [mem_takeS hq]
        constructor
        · rintro (z | ⟨z, z' | z'⟩)
          · exact .inl (.inl z)
          · exact .inl (.inr ⟨z, z'⟩)
          · exact .inr ⟨z, z'⟩
        · rintro ((z | ⟨z, z'⟩) | ⟨z, z'⟩)
          · exact .inl z
          · exact .inr ⟨z, .inl z'⟩
          · exact .inr ⟨z, .inr z'⟩
    · obtain ⟨kvs2, d2, t4, t7, rfl, l2, k2', D2⟩ := z
      exists bnd_ok
      refine ⟨kvs2, d2, _, _, _, rfl, by omega, k2', fun a ha b hb => ?_⟩
      have := D2 a ha b hb
      rw [List.take_length] at this
      refine ⟨fun z => this.1 ?_, fun z => this.2 fun y => z ?_⟩
      · rcases (mem_takeS hp).mp z with z | rfl
        · exact .inl z
        · exact .inr ⟨rfl, hb⟩
      · rcases y with y | ⟨y, _⟩
        · exact (mem_takeS hp).mpr (.inl y)
        · exact (mem_takeS hp).mpr (.inr y)
  · obtain ⟨kvs1, d1, t3, t4, t7, rfl, l1, k1, D1⟩ := z
    rw [List.take_length] at D1
    exists bnd_ok
    exact ⟨kvs1, d1, _, _, _, rfl, by omega, k1, fun a ha b hb => (D1 a ha b hb).1 ha⟩
end

--#NEW
section
variable {ps : List Wd} {ts : List Tie}
theorem ed_take {k : Nat} {t : Tie} (ht : ts[k]? = some t) {a b : Wd} {r : Int} : Ed (ts.take (k + 1)) a b r ↔ Ed (ts.take k) a b r ∨ t = (a, b, r) ∨ t = (b, a, r) := by
  unfold Ed
  rw [mem_takeS ht, mem_takeS ht]
  constructor
  · rintro ((h | h) | (h | h))
    · exact .inl (.inl h)
    · exact .inr (.inl h.symm)
    · exact .inl (.inr h)
    · exact .inr (.inr h.symm)
  · rintro ((h | h) | h | h)
    · exact .inl (.inl h)
    · exact .inr (.inl h)
    · exact .inl (.inr h.symm)
    · exact .inr (.inr h.symm)
/-- behind some ties -/
structure Tied (ps : List Wd) (ts : List Tie) (d : Wd → Wd → Option Int) : Prop where
  refl : ∀ p ∈ ps, d p p = some 0
  sound : ∀ a b w, d a b = some w → (a = b ∧ w = 0) ∨ Ed ts a b w
  edge : ∀ a b r, Ed ts a b r → d a b = some r
theorem Tied.step {k : Nat} {t : Tie} {d : Wd → Wd → Option Int} (h : TsOk ps ts) (ht : ts[k]? = some t) (q : Tied ps (ts.take k) d) : Tied ps (ts.take (k + 1)) (up2 (up2 d t.1 t.2.1 (some t.2.2)) t.2.1 t.1 (some t.2.2)) := by
  obtain ⟨x, y, r⟩ := t
  have irr : x ≠ y := h.irr _ (List.mem_of_getElem? ht)
  have uq : ∀ s ∈ ts.take k, ¬ (s.1 = x ∧ s.2.1 = y) ∧ ¬ (s.1 = y ∧ s.2.1 = x) := fun s hs => by
    have pw := h.uq.sublist (List.take_sublist (k + 1) ts)
    rw [List.take_add_one, ht, List.pairwise_append] at pw
    exact pw.2.2 s hs (x, y, r) (by simp)
  dsimp only
  unfold up2
  refine ⟨fun p hp => ?_, fun a b w e => ?_, fun a b s e => ?_⟩
  · rw [if_neg (fun z => irr (z.2.symm.trans z.1)), if_neg (fun z => irr (z.1.symm.trans z.2))]
    exact q.refl p hp
  · split at e
    · rename_i z; cases e
      obtain ⟨rfl, rfl⟩ := z
      exact .inr ((ed_take ht).mpr (.inr (.inr rfl)))
    · split at e
      · rename_i z; cases e
        obtain ⟨rfl, rfl⟩ := z
        exact .inr ((ed_take ht).mpr (.inr (.inl rfl)))
      · exact (q.sound a b w e).elim .inl fun z => .inr ((ed_take ht).mpr (.inl z))
  · rcases (ed_take ht).mp e with z | z | z
    · rw [if_neg, if_neg]
      · exact q.edge a b s z
      · rintro ⟨rfl, rfl⟩
        rcases z with z | z
        · exact (uq _ z).1 ⟨rfl, rfl⟩
        · exact (uq _ z).2 ⟨rfl, rfl⟩
      · rintro ⟨rfl, rfl⟩
        rcases z with z | z
        · exact (uq _ z).2 ⟨rfl, rfl⟩
        · exact (uq _ z).1 ⟨rfl, rfl⟩
    · cases z
      rw [if_neg (fun z => irr z.1), if_pos ⟨rfl, rfl⟩]
    · cases z
      rw [if_pos ⟨rfl, rfl⟩]
theorem e_dist (hp : PsOk ps) (h : TsOk ps ts) : ∃ kvs d, F_distances_of [psD ps, tsD ts] = .ok (.dct kvs, true) ∧ DctOk kvs d ∧ Dist ps ts d ∧ kvs.length ≤ 300 := by
  have l2 := hp.l2
  have lt := h.len
  suffices z : Wn (F_distances_of [psD ps, tsD ts]) fun r => ∃ kvs d, r = (.dct kvs, true) ∧ DctOk kvs d ∧ Dist ps ts d ∧ kvs.length ≤ 300 by
    obtain ⟨r, e, kvs, d, rfl, z⟩ := z
    exact ⟨kvs, d, e, z⟩
  rw [o_distances_of]
  exists bnd_ok
  refine wp_dt (fun n acc ρ => ∃ s3, ρ = [.sh (psD ps), .sh (tsD ts), .un, s3, .un, .un, .un, .un] ∧ acc.length ≤ n ∧ DctOk acc fun a b => if a = b ∧ a ∈ ps.take n then some 0 else none) rfl (by omega) ⟨_, rfl, by simp, fun a b => by simp [dget]⟩ (fun n x acc ρ hx z => ?_) fun acc ρ z => ?_
  · obtain ⟨s3, rfl, z1, z2⟩ := z
    exists bnd_ok
    refine ⟨_, rfl, Nat.le_trans dput_le (by omega), fun a b => ?_⟩
    rw [(z2.put x x 0) a b]
    congr 1
    unfold up2
    dsimp only
    simp only [mem_takeS hx]
    by_cases e : a = x ∧ b = x
    · obtain ⟨rfl, rfl⟩ := e; simp
    · rw [if_neg e]
      by_cases e2 : a = b
      · subst e2
        have : a ≠ x := fun z => e ⟨z, z⟩
        simp [this]
      · simp [e2]
  · obtain ⟨s3, rfl, z1, z2⟩ := z
    rw [List.take_length] at z2
    exists bnd_ok
    refine wp_for (fun k ρ => ∃ kvs d s3 s4 s5, ρ = [.sh (psD ps), .sh (tsD ts), .ow (.dct kvs), s3, s4, s5, .un, .un] ∧ kvs.length ≤ 6 + 2 * k ∧ DctOk kvs d ∧ Tied ps (ts.take k) d) ⟨acc, _, _, _, _, rfl, by omega, z2, ⟨fun p hp => if_pos ⟨rfl, hp⟩, fun a b w e => ?_, fun a b r e => ?_⟩⟩ (fun k t ρ ht z => ?_) fun ρ z => ?_
    · split at e
      · rename_i z; cases e; exact .inl ⟨z.1, rfl⟩
      · cases e
    · rcases e with e | e <;> simp at e
    · obtain ⟨kvs, d, s3, s4, s5, rfl, z1, z2, z3⟩ := z
      have hk := (List.getElem?_eq_some_iff.mp ht).1
      have hl1 : kvs.length < 1000 := by omega
      have hl2 : (dput kvs (k2 t.1 t.2.1) (.int t.2.2)).length < 1000 := Nat.lt_of_le_of_lt dput_le (by omega)
      exists bnd_ok
      refine ⟨_, _, _, _, _, rfl, ?_, (z2.put t.1 t.2.1 t.2.2).put t.2.1 t.1 t.2.2, z3.step h ht⟩
      have e1 := dput_le (kvs := kvs) (k := k2 t.1 t.2.1) (v := .int t.2.2)
      have e2 := dput_le (kvs := dput kvs (k2 t.1 t.2.1) (.int t.2.2)) (k := k2 t.2.1 t.1) (v := .int t.2.2)
      omega
    · obtain ⟨kvs, d, s3, s4, s5, rfl, z1, z2, z3⟩ := z
      rw [List.take_length] at z3
      exists bnd_ok
      refine wp_for (fun i ρ => ∃ kvs d s3 s4 s5 s6 s7, ρ = [.sh (psD ps), .sh (tsD ts), .ow (.dct kvs), s3, s4, s5, s6, s7] ∧ kvs.length ≤ 26 + 36 * i ∧ DctOk kvs d ∧ Mid ps ts (ps.take i) d) ⟨kvs, d, _, _, _, _, _, rfl, by omega, z2, ⟨z3.refl, fun p hp q hq w e => ?_, fun a b r e => ⟨r, z3.edge a b r e, by omega⟩, fun m hm => by simp at hm⟩⟩ (fun i m ρ hm z => ?_) fun ρ z => ?_
      · rcases z3.sound p q w e with ⟨rfl, rfl⟩ | e
        · exact ⟨[], .nil⟩
        · exact ⟨[p], by rw [← Int.zero_add w]; exact .cons .nil e⟩
      · obtain ⟨kvs, d, s3, s4, s5, s6, s7, rfl, z1, z2, z3⟩ := z
        have hi := (List.getElem?_eq_some_iff.mp hm).1
        have mm := List.mem_of_getElem? hm
        simp -dsimp only [ev_gN, set_0, set_s, bnd_ok]
        refine (r_middle hp.nd l2 mm (z3.refl m mm) z2 (by omega)).mono fun r z => ?_
        obtain ⟨y1, kvs', d', t3, t4, t7, y2, y3, y4, y5⟩ := z
        obtain ⟨o, ρ'⟩ := r
        dsimp only at y1 y2
        subst y1 y2
        refine ⟨kvs', d', _, _, _, _, _, rfl, by omega, y4, ?_⟩
        have := z3.step h.gr mm (fun x hx => List.mem_of_mem_take hx) y5
        rwa [List.take_add_one, hm]
      · obtain ⟨kvs, d, s3, s4, s5, s6, s7, rfl, z1, z2, z3⟩ := z
        rw [List.take_length] at z3
        exists bnd_ok
        exact ⟨kvs, d, rfl, z2, z3.dist h.gr, by omega⟩
end

--#NEW
/-! ### texts of signs -/
theorem strs_codes (xs : List Nat) : strsOf (xs.map fun c => D.str [c]) = .ok (xs.map fun c => [c]) := by
  have := strs_map (xs.map fun c => [c])
  rwa [List.map_map] at this
theorem flat_codes (xs : List Nat) : joinS [] (xs.map fun c => [c]) = xs := by
  cases xs with
  | nil => rfl
  | cons x xs =>
    show (xs.map fun c => [c]).foldl (fun acc y => acc ++ [] ++ y) [x] = x :: xs
    have : ∀ (xs acc : List Nat), (xs.map fun c => [c]).foldl (fun acc y => acc ++ [] ++ y) acc = acc ++ xs := fun xs => by
      induction xs with
      | nil => intro acc; simp
      | cons x xs ih => intro acc; rw [List.map_cons, List.foldl_cons, ih]; simp
    rw [this]; rfl
theorem sum_len1 (xs : List Nat) : ((xs.map fun c => [c]).map (·.length)).sum = xs.length := by
  induction xs with
  | nil => rfl
  | cons x xs ih => rw [List.map_cons, List.map_cons, List.sum_cons, ih, List.length_cons]; simp; omega
theorem e_join {xs : List Nat} (hl : xs.length ≤ 1000) : joinB (.str []) (.lst (xs.map fun c => D.str [c])) = .ok (.str xs, false) := by
  unfold joinB joinD
  dsimp only
  rw [strs_codes]
  show (if ((xs.map fun c => [c]).map (·.length)).sum + (xs.map fun c => [c]).length * ([] : List Nat).length ≤ 100000 then str_ (joinS [] (xs.map fun c => [c])) else .no) = _
  rw [sum_len1, if_pos (by simp; omega), flat_codes]; rfl
/-! ### puppets -/
@[reducible] def nmS (ss : List Sg) : List Nat := ss.map fun s => s.1
@[reducible] def pupD (ps : List Wd) (ts : List Tie) (hk : List Nat) (ss : List Sg) (kvs : List (List Ky × D)) : D := .ins 2 [psD ps, tsD ts, .str hk, ssD ss, .str (nmS ss), .dct kvs]
structure PuOk (ps : List Wd) (ts : List Tie) (hk : List Nat) (ss : List Sg) : Prop where
  p : PsOk ps
  t : TsOk ps ts
  h : HkOk hk
  s : SsOk ps hk ss
section
variable {ps : List Wd} {ts : List Tie} {hk : List Nat} {ss : List Sg} {kvs : List (List Ky × D)} {d : Wd → Wd → Option Int} {h l : Wd → Int} {p : Wd} {x y : D} {s t : Int} {fh fl : Wd → D}
theorem e_puppet (h : PuOk ps ts hk ss) : ∃ kvs d, mkObj 2 F_Puppet___init__ [psD ps, tsD ts, .str hk, ssD ss] = .ok (pupD ps ts hk ss kvs, false) ∧ DctOk kvs d ∧ Dist ps ts d := by
  obtain ⟨kvs, d, e, e1, e2, e3⟩ := e_dist h.p h.t
  refine ⟨kvs, d, ?_, e1, e2⟩
  have l2 := h.s.l2
  rw [obj_eq, o_Puppet___init__]
  exists e_parts h.p, e_ties h.p h.t, e_hooks h.h, e_strings h.h h.s
  rw [lc_eq (fun s => some (.str [s.1])) rfl (by omega) (fun x _ => ⟨[.ow (.ins 2 [psD ps, tsD ts, .str hk, ssD ss]), .sh (psD ps), .sh (tsD ts), .sh (.str hk), .sh (ssD ss), .sh (sgD x)], ?_, rfl, rfl⟩), fm_map]
  · have e5 : ss.map (fun s => D.str [s.1]) = (nmS ss).map fun c => D.str [c] := by rw [nmS, List.map_map]; rfl
    rw [e5]
    exists e_join (show (nmS ss).length ≤ 1000 by rw [List.length_map]; omega), e
  · exists bnd_ok
end

--#NEW
/-! ### values, errors -/
def thgs : List D := [.int 100000000000000000000000000007, .non, .str [120], .tup [.int 1, .str [97]], .lst [.int 2], .dic [], .bl true, .int (-5), .tup [.str [97, 98], .tup []], .str []]
theorem isErr_ok {c : Nat} {ss : List Nat} {ds : List D} (hc : c ∈ xsL) : isErr (isTb xsL ss) (.err c ds) = .ok (.bl (ss.contains c), false) := by
  have e : isTb xsL ss c = some (ss.contains c) := if_pos hc
  unfold isErr
  simp only [e]
theorem atErr_ok {g : List (Nat × Nat)} {c i : Nat} {d : D} {ds : List D} (h : atTb g c = some i) (hd : ds[i]? = some d) : atErr (atTb g) (.err c ds) = .ok (d, false) := by
  unfold atErr
  simp only [h, hd]
theorem mkErr1 {c : Nat} {d : D} : mkErr c 1 [d] = .ok (.err c [d], false) := rfl
theorem mkErr2 {c : Nat} {d e : D} : mkErr c 2 [d, e] = .ok (.err c [d, e], false) := rfl
theorem mkErr0 {c : Nat} : mkErr c 0 [] = .ok (.err c [], false) := rfl
def clsI : List Nat := [21, 22, 23, 24, 25, 26, 27, 28, 29, 30, 31, 32, 33, 34, 35, 36, 37, 38, 39, 40, 41, 42, 43, 45, 46, 47, 48, 49, 50, 51, 52, 53, 54, 55, 57]
def clsB (c : Nat) : List Bool := clsI.map fun s => [s].contains c
def basB (c : Nat) : List Bool := [[20, 21, 22, 23, 24, 25, 26, 27, 28, 29, 30, 31, 32, 33, 34, 35, 36, 37, 38, 39, 40, 41, 42, 43].contains c, [44, 45, 46, 47, 48, 49, 50, 51, 52, 53, 54, 55].contains c, [56, 57].contains c]
/-- an error's number, its place among the classes -/
def okAt (c : Nat) (at_ : Nat) : Bool := decide (c ∈ xsL) && ((clsB c).count true == 1) && decide (true ∈ clsB c) && ((clsB c).idxOf true == at_) && (basB c == [decide ((at_ : Int) < 23), decide ((22 : Int) < at_) && decide ((at_ : Int) < 34), decide ((at_ : Int) = 34)])
theorem e_classes {c : Nat} {ds : List D} (hc : c ∈ xsL) : F__law_classes [.err c ds] = .ok (.lst ((clsB c).map D.bl), true) := by
  rw [o__law_classes]
  exists mkErr1, mkErr2, mkErr0, isErr_ok hc
  rfl
theorem e_is {c k : Nat} {ds : List D} (h : okAt c k = true) : F__law_is [.err c ds, .int k] = .ok (.bl true, false) := by
  unfold okAt at h
  simp only [Bool.and_eq_true, decide_eq_true_eq, beq_iff_eq] at h
  obtain ⟨⟨⟨⟨hc, h1⟩, h2⟩, h3⟩, h4⟩ := h
  have c1 : countB (.lst ((clsB c).map D.bl)) (.bl true) = .ok (.int 1, false) := by
    show (boolsOf ((clsB c).map D.bl) >>= fun bs => R.ok (D.int (bs.count true : Nat), false)) = _
    rw [show boolsOf ((clsB c).map D.bl) = .ok (clsB c) from bools_map _]
    show R.ok (D.int ((clsB c).count true : Nat), false) = _
    rw [h1]; rfl
  have c2 : indexT (.lst ((clsB c).map D.bl)) (.bl true) = .ok (.int k, false) := by
    show (boolsOf ((clsB c).map D.bl) >>= fun bs => if true ∈ bs then R.ok (D.int (bs.idxOf true : Nat), false) else .no) = _
    rw [show boolsOf ((clsB c).map D.bl) = .ok (clsB c) from bools_map _]
    show (if true ∈ clsB c then R.ok (D.int ((clsB c).idxOf true : Nat), false) else .no) = _
    rw [if_pos h2, h3]
  have q : ∀ x y z : Bool, eqD no2 (.lst [.bl x, .bl y, .bl z]) (.lst [.bl x, .bl y, .bl z]) = .ok (.bl true, false) := by
    intro x y z
    have dk : ∀ x y z : Bool, dok dep (.lst [.bl x, .bl y, .bl z]) = true := fun x y z => by with_unfolding_all rfl
    show eqG no2 _ _ = _
    unfold eqG
    rw [dk]
    simp [eqv, eqvs, bl_]
  unfold basB at h4
  injection h4 with e1 h4
  injection h4 with e2 h4
  injection h4 with e3 _
  rw [o__law_is]
  by_cases hk : 22 < k
  · have d1 : decide ((22 : Int) < (k : Int)) = true := decide_eq_true (by omega)
    rw [d1, Bool.true_and] at e2
    exists mkErr1, mkErr2, mkErr0, e_classes hc, isErr_ok hc, c1, c2, e1, e2, e3, d1, q
  · have d1 : decide ((22 : Int) < (k : Int)) = false := decide_eq_false (by omega)
    rw [d1, Bool.false_and] at e2
    exists mkErr1, mkErr2, mkErr0, e_classes hc, isErr_ok hc, c1, c2, e1, e2, e3, d1, q

local macro_rules | `(tactic| exists $es,*) => do
  let ls ← es.getElems.mapM fun e => `(Lean.Parser.Tactic.simpLemma| $e:term)
  `(tactic| simp -dsimp -implicitDefEqProofs (disch := walk_at "ds") only [bnd_ok, bnd_bnd, Wn_ok, cnd_t, cnd_f, cnd_n, cnd_p, cnd_q, varG_sh, varG_ow, movG_sh, movG_ow, lookG_sh, lookG_ow, ownG_ow, get_0, get_s, set_0, set_s, ev_var, ev_mov0, ev_look, ev_c, ev_c0, ev_bin, ev_un, ev_bor, ev_borR, ev_bor1, ev_nil, ev_cons, ev_n, ev_if, ev_and, ev_or, notR_bl, ev_not, ev_chain, ev_callR, ev_callT, ev_nk, isL_ok, ev_mut, intR_i, ev_part0, ev_part1, ev_slice, seqk_nx, seqk_rt, ev_seq, ev_next, keep_tt, keep_tf, ev_asg, ev_par, ev_gN, ev_gTt, ev_gTk, ev_g0, ev_g1, ev_expr, ev_ret, ev_retV, ev_sif, ev_for, ev_put, ev_fld, fldG_0, fldG_1, fldG_2, fldG_3, fldG_4, fldG_5, end_nx, end_rt, objE_go, ev_iv, items_lst, items_tup, items_str, ev_range, rngG_1, rngG_2, LK_nx, cndO_none, cndO_some, ev_lc, add_i, add_l, sub_i, mul_i, fdiv_i, mod_i, pow_i, neg_i, lt_i, lt_s, le_i, le_s, gt_i, ge_i, eq_i, eq_s, ne_i, ne_o, isN_i, sel_t, in_c, opt_s, ixt_0, ixt_1, ixt_2, ixl_0, ixl_1, ixl_2, sl_f, sl_t, len_l, len_f, len_t, len_s, isi_int_i, isi_bool_i, isi_str_s, isi_tup_t, isi_o, abs_i, int_i, max_i, min_i, all_m, mkTup_e, mkKey_e, mkLst_e, app_e, put_l0, put_l1, put_l2, fld_0, fld_1, fld_2, fld_3, wipe_0, wipe_s, okS_un, okS_sh, okS_us, noOw_0, noOw_s, back_0, back_s, getD_0, getD_s, in_k2, nin_k2, ix_k2, put_k2, keyT_k2, enI_t, ev_en, ev_dt, u_mm_Puppet___eq__, u_mt__law_bag_1, u_mt__law_bag_2, u_mt__law_bag_3, u_mm__law_bag, u_mt__law_indexes_1, u_mt__law_indexes_2, u_mt__law_indexes_3, u_mt__law_indexes_4, u_mm__law_indexes, u_mt__law_classes_1, u_mt__law_classes_2, u_mt__law_classes_3, u_mt__law_classes_4, u_mt__law_classes_5, u_mt__law_classes_6, u_mt__law_classes_7, u_mt__law_classes_8, u_mt__law_classes_9, u_mt__law_classes_10, u_mt__law_classes_11, u_mt__law_classes_12, u_mt__law_classes_13, u_mt__law_classes_14, u_mm__law_classes, u_mt__law_is_1, u_mt__law_is_2, u_mt__law_is_3, u_mm__law_is, u_mt__law_draw_1, u_mt__law_draw_2, u_mt__law_draw_3, u_mt__law_draw_4, u_mt__law_draw_5, u_mm__law_draw, u_mm__law_one, u_mt__law_others_right_1, u_mt__law_others_right_2, u_mt__law_others_right_3, u_mt__law_others_right_4, u_mt__law_others_right_5, u_mt__law_others_right_6, u_mt__law_others_right_7, u_mt__law_others_right_8, u_mt__law_others_right_9, u_mt__law_others_right_10, u_mm__law_others_right, u_mt__law_values_1, u_mt__law_values_2, u_mt__law_values_3, u_mt__law_values_4, u_mt__law_values_5, u_mt__law_values_6, u_mt__law_values_7, u_mt__law_values_8, u_mt__law_values_9, u_mt__law_values_10, u_mt__law_values_11, u_mm__law_values, u_mt__law_right_1, u_mt__law_right_2, u_mt__law_right_3, u_mt__law_right_4, u_mt__law_right_5, u_mt__law_right_6, u_mt__law_right_7, u_mt__law_right_8, u_mt__law_right_9, u_mm__law_right, u_mm_are_great, u_mm_in_order, u_mm_check_hooks, u_mm_are_small, u_mt_check_parts_1, u_mm_check_parts, u_mm_is_string, u_mt_check_strings_1, u_mt_check_strings_2, u_mm_check_strings, u_mm_is_integer, u_mm_is_number, u_mt_is_tie_1, u_mt_is_tie_2, u_mm_is_tie, u_mt_check_ties_1, u_mt_check_ties_2, u_mm_check_ties, u_mt_distances_of_1, u_mt_distances_of_3, u_mt_distances_of_5, u_mt_distances_of_6, u_mm_distances_of, u_mt_Puppet___init___1, u_mt_Puppet___init___2, u_mt_Puppet___init___3, u_mt_Puppet___init___4, u_mt_Puppet___init___5, u_mt_Puppet___init___6, u_mt_Puppet___init___7, u_mt_Puppet___init___8, u_mm_Puppet___init__, u_mt_stick_man_1, u_mm_stick_man, u_mm_two_lines, u_mt_law_1, u_mt_law_2, u_mt_law_3, u_mt_law_4, u_mt_law_5, u_mt_law_6, u_mt_law_7, u_mm_law, e_isint, ltN1, in_ps, nin_ps, mkErr1, mkErr2, mkErr0, decide_true, decide_false, if_true, if_false, Bool.not_true, Bool.not_false, List.length_cons, List.length_nil, Int.cast_ofNat_Int, List.nil_append, List.cons_append, List.append_nil, and_self, and_true, true_and, and_false, false_and, List.length_map, Int.reduceToNat, Int.reducePow, Int.reduceSub, Int.reduceAdd, Int.reduceMul, Int.reduceNeg, $ls,*])
--#NEW
/-! ### errors with a value, with an index -/
theorem prm_1 {d : D} : prm [0] [] [d] = [d] := rfl
theorem prm_2 {d e : D} : prm [1, 0] [] [d, e] = [e, d] := rfl
def valC : List Nat := [21, 22, 23, 24, 28, 30, 31, 33, 34, 35, 38, 39, 40, 41, 42, 43, 45, 46, 47, 21, 22, 23, 24, 28, 30, 31, 33, 34, 35, 38, 39, 40, 41, 42, 43, 45, 46, 47]
def valA : List Nat := [0, 1, 2, 3, 7, 9, 10, 12, 13, 14, 17, 18, 19, 20, 21, 22, 23, 24, 25, 0, 1, 2, 3, 7, 9, 10, 12, 13, 14, 17, 18, 19, 20, 21, 22, 23, 24, 25]
def idxC : List Nat := [25, 26, 27, 29, 32, 36, 37, 48, 25, 26, 27, 29, 32, 36, 37, 48]
def idxA : List Nat := [4, 5, 6, 8, 11, 15, 16, 26, 4, 5, 6, 8, 11, 15, 16, 26]
theorem e_values {d : D} : F__law_values [d] = .ok (.lst (valC.map fun c => .err c [d]), true) := by
  rw [o__law_values]
  exists prm_1, prm_2
  rfl
theorem e_indexes {d : D} : F__law_indexes [d] = .ok (.lst (idxC.map fun c => .err c [d]), true) := by
  rw [o__law_indexes]
  exists prm_1, prm_2
  rfl
theorem vals_22 : ∀ k, k < 38 → ∃ c a, valC[k]? = some c ∧ valA[k]? = some a ∧ okAt c a = true ∧ atTb xt_value c = some 0 := by
  have h : ((List.range 38).all fun k => match valC[k]?, valA[k]? with | some c, some a => okAt c a && decide (atTb xt_value c = some 0) | _, _ => false) = true := by decide +kernel
  intro k hk
  have := List.all_eq_true.mp h k (List.mem_range.mpr hk)
  cases e1 : valC[k]? with
  | none => rw [e1] at this; cases this
  | some c =>
    cases e2 : valA[k]? with
    | none => rw [e1, e2] at this; cases this
    | some a =>
      rw [e1, e2] at this
      have this : (okAt c a && decide (atTb xt_value c = some 0)) = true := this
      rw [Bool.and_eq_true, decide_eq_true_eq] at this
      exact ⟨c, a, rfl, rfl, this.1, this.2⟩
theorem idxs_22 : ∀ k, k < 16 → ∃ c a, idxC[k]? = some c ∧ idxA[k]? = some a ∧ okAt c a = true ∧ atTb xt_index c = some 0 := by
  have h : ((List.range 16).all fun k => match idxC[k]?, idxA[k]? with | some c, some a => okAt c a && decide (atTb xt_index c = some 0) | _, _ => false) = true := by decide +kernel
  intro k hk
  have := List.all_eq_true.mp h k (List.mem_range.mpr hk)
  cases e1 : idxC[k]? with
  | none => rw [e1] at this; cases this
  | some c =>
    cases e2 : idxA[k]? with
    | none => rw [e1, e2] at this; cases this
    | some a =>
      rw [e1, e2] at this
      have this : (okAt c a && decide (atTb xt_index c = some 0)) = true := this
      rw [Bool.and_eq_true, decide_eq_true_eq] at this
      exact ⟨c, a, rfl, rfl, this.1, this.2⟩
/-! ### repr of the things -/
theorem rp_int {i : Int} (h : i.natAbs.log2 < 1920) : ∃ s, reprA [.int i] = .ok (.str s, false) := ⟨_, if_pos h⟩
theorem rp_str {l : List Nat} (h : (PySem.reprText (S l)).length ≤ 100000) : ∃ s, reprA [.str l] = .ok (.str s, false) := ⟨_, if_pos h⟩
theorem rp_seq {d : D} (h : seqD d = true) (h2 : dok dep d = true ∧ (toP d).showable = true ∧ (toP d).hasDict = false ∧ (toP d).depth ≤ 60 ∧ (toP d).shown.cps.size ≤ 100000) : ∃ s, reprA [d] = .ok (.str s, false) := by
  refine ⟨(toP d).shown.cps.toList, ?_⟩
  have e : reprA [d] = reprD [d] := by cases d <;> first | rfl | cases h
  rw [e]
  unfold reprD
  exact if_pos ⟨h, h2⟩
theorem e_rp {d : D} (h : d ∈ thgs) : ∃ s, reprA [d] = .ok (.str s, false) := by
  simp only [thgs, List.mem_cons, List.not_mem_nil, or_false] at h
  rcases h with rfl | rfl | rfl | rfl | rfl | rfl | rfl | rfl | rfl | rfl
  · exact rp_int (by decide +kernel)
  · exact ⟨_, rfl⟩
  · exact rp_str (by decide +kernel)
  · exact rp_seq rfl (by decide +kernel)
  · exact rp_seq rfl (by decide +kernel)
  · exact ⟨_, rfl⟩
  · exact ⟨_, rfl⟩
  · exact rp_int (by decide +kernel)
  · exact rp_seq rfl (by decide +kernel)
  · exact rp_str (by decide +kernel)
theorem e_rz {a b : D} (ha : a ∈ thgs) (hb : b ∈ thgs) : ∃ s, reprZ [.lst [a, b]] = .ok (.str s, false) := by
  have h : ∀ a ∈ thgs, ∀ b ∈ thgs, ([a, b].all okZ && ((PySem.PyData.list ([a, b].map toZ)).showable && decide ((PySem.PyData.list ([a, b].map toZ)).depth ≤ 60) && decide ((PySem.PyData.list ([a, b].map toZ)).shown.cps.size ≤ 100000))) = true := by
    have : (thgs.all fun a => thgs.all fun b => ([a, b].all okZ && ((PySem.PyData.list ([a, b].map toZ)).showable && decide ((PySem.PyData.list ([a, b].map toZ)).depth ≤ 60) && decide ((PySem.PyData.list ([a, b].map toZ)).shown.cps.size ≤ 100000)))) = true := by decide +kernel
    intro a ha b hb
    exact List.all_eq_true.mp (List.all_eq_true.mp this a ha) b hb
  have := h a ha b hb
  simp only [Bool.and_eq_true, decide_eq_true_eq] at this
  exact ⟨_, if_pos ⟨this.1, this.2.1.1, this.2.1.2, this.2.2⟩⟩

local macro_rules | `(tactic| exists $es,*) => do
  let ls ← es.getElems.mapM fun e => `(Lean.Parser.Tactic.simpLemma| $e:term)
  `(tactic| simp -dsimp -implicitDefEqProofs (disch := walk_at "ds") only [bnd_ok, bnd_bnd, Wn_ok, cnd_t, cnd_f, cnd_n, cnd_p, cnd_q, varG_sh, varG_ow, movG_sh, movG_ow, lookG_sh, lookG_ow, ownG_ow, get_0, get_s, set_0, set_s, ev_var, ev_mov0, ev_look, ev_c, ev_c0, ev_bin, ev_un, ev_bor, ev_borR, ev_bor1, ev_nil, ev_cons, ev_n, ev_if, ev_and, ev_or, notR_bl, ev_not, ev_chain, ev_callR, ev_callT, ev_nk, isL_ok, ev_mut, intR_i, ev_part0, ev_part1, ev_slice, seqk_nx, seqk_rt, ev_seq, ev_next, keep_tt, keep_tf, ev_asg, ev_par, ev_gN, ev_gTt, ev_gTk, ev_g0, ev_g1, ev_expr, ev_ret, ev_retV, ev_sif, ev_for, ev_put, ev_fld, fldG_0, fldG_1, fldG_2, fldG_3, fldG_4, fldG_5, end_nx, end_rt, objE_go, ev_iv, items_lst, items_tup, items_str, ev_range, rngG_1, rngG_2, LK_nx, cndO_none, cndO_some, ev_lc, add_i, add_l, sub_i, mul_i, fdiv_i, mod_i, pow_i, neg_i, lt_i, lt_s, le_i, le_s, gt_i, ge_i, eq_i, eq_s, ne_i, ne_o, isN_i, sel_t, in_c, opt_s, ixt_0, ixt_1, ixt_2, ixl_0, ixl_1, ixl_2, sl_f, sl_t, len_l, len_f, len_t, len_s, isi_int_i, isi_bool_i, isi_str_s, isi_tup_t, isi_o, abs_i, int_i, max_i, min_i, all_m, mkTup_e, mkKey_e, mkLst_e, app_e, put_l0, put_l1, put_l2, fld_0, fld_1, fld_2, fld_3, wipe_0, wipe_s, okS_un, okS_sh, okS_us, noOw_0, noOw_s, back_0, back_s, getD_0, getD_s, in_k2, nin_k2, ix_k2, put_k2, keyT_k2, enI_t, ev_en, ev_dt, u_mm_Puppet___eq__, u_mt__law_bag_1, u_mt__law_bag_2, u_mt__law_bag_3, u_mm__law_bag, u_mt__law_indexes_1, u_mt__law_indexes_2, u_mt__law_indexes_3, u_mt__law_indexes_4, u_mm__law_indexes, u_mt__law_classes_1, u_mt__law_classes_2, u_mt__law_classes_3, u_mt__law_classes_4, u_mt__law_classes_5, u_mt__law_classes_6, u_mt__law_classes_7, u_mt__law_classes_8, u_mt__law_classes_9, u_mt__law_classes_10, u_mt__law_classes_11, u_mt__law_classes_12, u_mt__law_classes_13, u_mt__law_classes_14, u_mm__law_classes, u_mt__law_is_1, u_mt__law_is_2, u_mt__law_is_3, u_mm__law_is, u_mt__law_draw_1, u_mt__law_draw_2, u_mt__law_draw_3, u_mt__law_draw_4, u_mt__law_draw_5, u_mm__law_draw, u_mm__law_one, u_mt__law_others_right_1, u_mt__law_others_right_2, u_mt__law_others_right_3, u_mt__law_others_right_4, u_mt__law_others_right_5, u_mt__law_others_right_6, u_mt__law_others_right_7, u_mt__law_others_right_8, u_mt__law_others_right_9, u_mt__law_others_right_10, u_mm__law_others_right, u_mt__law_values_1, u_mt__law_values_2, u_mt__law_values_3, u_mt__law_values_4, u_mt__law_values_5, u_mt__law_values_6, u_mt__law_values_7, u_mt__law_values_8, u_mt__law_values_9, u_mt__law_values_10, u_mt__law_values_11, u_mm__law_values, u_mt__law_right_1, u_mt__law_right_2, u_mt__law_right_3, u_mt__law_right_4, u_mt__law_right_5, u_mt__law_right_6, u_mt__law_right_7, u_mt__law_right_8, u_mt__law_right_9, u_mm__law_right, u_mm_are_great, u_mm_in_order, u_mm_check_hooks, u_mm_are_small, u_mt_check_parts_1, u_mm_check_parts, u_mm_is_string, u_mt_check_strings_1, u_mt_check_strings_2, u_mm_check_strings, u_mm_is_integer, u_mm_is_number, u_mt_is_tie_1, u_mt_is_tie_2, u_mm_is_tie, u_mt_check_ties_1, u_mt_check_ties_2, u_mm_check_ties, u_mt_distances_of_1, u_mt_distances_of_3, u_mt_distances_of_5, u_mt_distances_of_6, u_mm_distances_of, u_mt_Puppet___init___1, u_mt_Puppet___init___2, u_mt_Puppet___init___3, u_mt_Puppet___init___4, u_mt_Puppet___init___5, u_mt_Puppet___init___6, u_mt_Puppet___init___7, u_mt_Puppet___init___8, u_mm_Puppet___init__, u_mt_stick_man_1, u_mm_stick_man, u_mm_two_lines, u_mt_law_1, u_mt_law_2, u_mt_law_3, u_mt_law_4, u_mt_law_5, u_mt_law_6, u_mt_law_7, u_mm_law, e_isint, ltN1, in_ps, nin_ps, mkErr1, mkErr2, mkErr0, prm_1, prm_2, decide_true, decide_false, if_true, if_false, Bool.not_true, Bool.not_false, List.length_cons, List.length_nil, Int.cast_ofNat_Int, List.nil_append, List.cons_append, List.append_nil, and_self, and_true, true_and, and_false, false_and, List.length_map, Int.reduceToNat, Int.reducePow, Int.reduceSub, Int.reduceAdd, Int.reduceMul, Int.reduceNeg, $ls,*])
--#NEW
/-! ### a turn -/
theorem ns_eq {own : D → D → R Rv} {l : List Nat} : neD own (.str l) (.str l) = .ok (.bl false, false) := by
  show R.ok (D.bl (!decide (l = l)), false) = _
  rw [decide_eq_true rfl]; rfl
theorem nl_eq : neD no2 (.lst []) (.lst []) = .ok (.bl false, false) := rfl
theorem at33 : okAt 55 33 = true := by decide +kernel
theorem at27 : okAt 49 27 = true := by decide +kernel
theorem at28 : okAt 50 28 = true := by decide +kernel
theorem at29 : okAt 51 29 = true := by decide +kernel
theorem at34 : okAt 57 34 = true := by decide +kernel
theorem at30 : okAt 52 30 = true := by decide +kernel
theorem at31 : okAt 53 31 = true := by decide +kernel
theorem at32 : okAt 54 32 = true := by decide +kernel
theorem lc2 {γ : Type} {g : Tg} {c : Option Ev} {e : Ev} {vs : List Nat} {d : D} {ρ ρ' : Env} {k : Rv × Env → R γ} (hn : noOw ρ vs = true)
    (hs : (bnd (g d (wipeS ρ vs)) fun ρ1 => bnd (cndO c ρ1) fun s => cnd s.1 (bnd (e s.2) fun y => .ok (some y.1.1, y.2)) (.ok (none, s.2))) = .ok (none, ρ') ∧ wipeS ρ' vs = wipeS ρ vs ∧ backS ρ ρ' vs = ρ) (hb : backS ρ ρ vs = ρ := by rfl) : bnd (lcS g c e vs [d, d] ρ) k = k ((.lst [], true), ρ) := by
  have h : lcS g c e vs [d, d] ρ = .ok ((.lst [], true), ρ) := lc_eq (mk := fun _ : Unit => d) (xs := [(), ()]) (fun _ => none) hn (by simp) (fun _ _ => ⟨ρ', hs⟩) hb
  rw [h]; rfl
theorem e_others {a b : D} (ha : a ∈ thgs) (hb : b ∈ thgs) : F__law_others_right [a, b] = .ok (.bl true, false) := by
  obtain ⟨s1, r1⟩ := e_rp ha
  obtain ⟨s2, r2⟩ := e_rz ha hb
  have g1 : atErr (atTb xt_move) (.err 55 [a, b]) = .ok (a, false) := atErr_ok (i := 0) rfl rfl
  have g2 : atErr (atTb xt_shown) (.err 55 [a, b]) = .ok (b, false) := atErr_ok (i := 1) rfl rfl
  have g3 : atErr (atTb xt_given) (.err 49 [a]) = .ok (a, false) := atErr_ok (i := 0) rfl rfl
  have g4 : atErr (atTb xt_given) (.err 50 [a]) = .ok (a, false) := atErr_ok (i := 0) rfl rfl
  have g5 : atErr (atTb xt_weights) (.err 51 [a]) = .ok (a, false) := atErr_ok (i := 0) rfl rfl
  have g6 : atErr (atTb xt_limit) (.err 57 [a]) = .ok (a, false) := atErr_ok (i := 0) rfl rfl
  have i1 : F__law_is [.err 55 [a, b], .int 33] = .ok (.bl true, false) := e_is at33
  have i2 : F__law_is [.err 49 [a], .int 27] = .ok (.bl true, false) := e_is at27
  have i3 : F__law_is [.err 50 [a], .int 28] = .ok (.bl true, false) := e_is at28
  have i4 : F__law_is [.err 51 [a], .int 29] = .ok (.bl true, false) := e_is at29
  have i5 : F__law_is [.err 57 [a], .int 34] = .ok (.bl true, false) := e_is at34
  have i6 : F__law_is [.err 52 [], .int 30] = .ok (.bl true, false) := e_is at30
  have i7 : F__law_is [.err 53 [], .int 31] = .ok (.bl true, false) := e_is at31
  have i8 : F__law_is [.err 54 [], .int 32] = .ok (.bl true, false) := e_is at32
  rw [o__law_others_right]
  exists bnd_ok
  rw [lc2 (ρ := [.sh a, .sh b, .sh (.lst [.err 55 [a, b], .err 55 [a, b]]), .un, .un]) (ρ' := [.sh a, .sh b, .sh (.lst [.err 55 [a, b], .err 55 [a, b]]), .sh (.err 55 [a, b]), .un]) rfl ⟨(by exists g1, g2, r2, ns_eq, i1), rfl, rfl⟩]
  exists nl_eq
  rw [lc2 (ρ := [.sh a, .sh b, .sh (.lst [.err 49 [a], .err 49 [a]]), .un, .un]) (ρ' := [.sh a, .sh b, .sh (.lst [.err 49 [a], .err 49 [a]]), .sh (.err 49 [a]), .un]) rfl ⟨(by exists g3, r1, ns_eq, i2), rfl, rfl⟩]
  exists nl_eq
  rw [lc2 (ρ := [.sh a, .sh b, .sh (.lst [.err 50 [a], .err 50 [a]]), .un, .un]) (ρ' := [.sh a, .sh b, .sh (.lst [.err 50 [a], .err 50 [a]]), .sh (.err 50 [a]), .un]) rfl ⟨(by exists g4, r1, ns_eq, i3), rfl, rfl⟩]
  exists nl_eq
  rw [lc2 (ρ := [.sh a, .sh b, .sh (.lst [.err 51 [a], .err 51 [a]]), .un, .un]) (ρ' := [.sh a, .sh b, .sh (.lst [.err 51 [a], .err 51 [a]]), .sh (.err 51 [a]), .un]) rfl ⟨(by exists g5, r1, ns_eq, i4), rfl, rfl⟩]
  exists nl_eq
  rw [lc2 (ρ := [.sh a, .sh b, .sh (.lst [.err 57 [a], .err 57 [a]]), .un, .un]) (ρ' := [.sh a, .sh b, .sh (.lst [.err 57 [a], .err 57 [a]]), .sh (.err 57 [a]), .un]) rfl ⟨(by exists g6, r1, ns_eq, i5), rfl, rfl⟩]
  have m3 : mulD no2 (.lst [.bl true]) (.int 3) = .ok (.lst [.bl true, .bl true, .bl true], true) := by with_unfolding_all rfl
  have q3 : eqD no2 (.lst [.bl true, .bl true, .bl true]) (.lst [.bl true, .bl true, .bl true]) = .ok (.bl true, false) := by with_unfolding_all rfl
  exists nl_eq, i6, i7, i8, m3, q3

--#NEW
section
variable {γ : Type} {kk : Rv × D → R γ} {P : γ → Prop} {bag : D}
def valL : List D := (valA.take 19).map fun n : Nat => D.int n
def idxL : List D := (idxA.take 8).map fun n : Nat => D.int n
theorem valL_2 : valL ++ valL = valA.map fun n : Nat => D.int n := rfl
theorem idxL_2 : idxL ++ idxL = idxA.map fun n : Nat => D.int n := rfl
theorem add_ll {xs ys : List D} (h : xs.length + ys.length ≤ 1000) : addD no2 (.lst xs) (.lst ys) = .ok (.lst (xs ++ ys), true) := by
  show (if xs.length + ys.length ≤ 1000 then _ else _) = _
  rw [if_pos h]
theorem ix_at {xs : List D} {k : Nat} {d : D} (h : xs[k]? = some d) : ixD (.lst xs) (.int k) = .ok (d, false) := by
  have hk : k < xs.length := (List.getElem?_eq_some_iff.mp h).1
  rw [ix_l (by omega) (by omega)]
  have e : xs[((k : Nat) : Int).toNat]'(by omega) = d := by
    have h2 := (List.getElem?_eq_some_iff.mp h).2
    simpa using h2
  rw [e]
theorem wp_right (hb : BagOk 0 bag) (k : ∀ d', Wn (kk ((.bl true, false), d')) P) : Wn (bnd (F__law_right [] bag) kk) P := by
  have pw : powD (.int 10) (.int 29) = .ok (.int (10 ^ 29), false) := by with_unfolding_all rfl
  have et : ([D.int 100000000000000000000000000007, D.non, D.str [120], D.tup [D.int 1, D.str [97]], D.lst [D.int 2], D.dic [], D.bl true, D.int (-5), D.tup [D.str [97, 98], D.tup []], D.str []] : List D) = thgs := rfl
  have lt : thgs.length = 10 := rfl
  have ev : ([D.int 0, D.int 1, D.int 2, D.int 3, D.int 7, D.int 9, D.int 10, D.int 12, D.int 13, D.int 14, D.int 17, D.int 18, D.int 19, D.int 20, D.int 21, D.int 22, D.int 23, D.int 24, D.int 25] : List D) = valL := rfl
  have ei : ([D.int 4, D.int 5, D.int 6, D.int 8, D.int 11, D.int 15, D.int 16, D.int 26] : List D) = idxL := rfl
  rw [o__law_right]
  exists pw
  rw [et]
  refine wp_one hb (by omega) (by omega) (by omega) fun x d1 hx hb1 => ?_
  exists bnd_ok
  refine wp_one hb1 (by omega) (by omega) (by omega) fun y d2 hy hb2 => ?_
  obtain ⟨s, hs⟩ := e_rp hx
  have r38 : rng 0 38 = (List.range 38).map fun i : Nat => D.int i := rng_map 38
  have r16 : rng 0 16 = (List.range 16).map fun i : Nat => D.int i := rng_map 16
  exists e_values
  rw [ev, r38]
  refine wp_for (mk := fun i : Nat => D.int i) (fun _ ρ => ∃ s5 s6, ρ = [.ow d2, .sh (.lst thgs), .sh x, .sh y, .ow (.lst (valC.map fun c => .err c [x])), s5, s6] ∧ (s5 = .ow (.lst valL) ∨ s5 = .sh (.lst valL)) ∧ okS (some s6) = true) ⟨_, .un, rfl, .inl rfl, rfl⟩ (fun n i ρ hi q => ?_) fun ρ q => ?_
  · obtain ⟨s5, s6, rfl, h5, h6⟩ := q
    have hn : i < 38 := by
      have h1 := List.mem_of_getElem? hi
      exact List.mem_range.mp h1
    obtain ⟨c, a, e1, e2, e3, e4⟩ := vals_22 i hn
    have x1 : ixD (.lst (valC.map fun c => D.err c [x])) (.int i) = .ok (.err c [x], false) := ix_at (by rw [List.getElem?_map, e1]; rfl)
    have x2 : ixD (.lst (valL ++ valL)) (.int i) = .ok (.int a, false) := ix_at (by rw [valL_2, List.getElem?_map, e2]; rfl)
    have x3 : addD no2 (.lst valL) (.lst valL) = .ok (.lst (valL ++ valL), true) := add_ll (by decide)
    have x4 : atErr (atTb xt_value) (.err c [x]) = .ok (x, false) := atErr_ok e4 rfl
    rcases h5 with rfl | rfl
    · exists x1, x2, x3, x4, hs, ns_eq, e_is e3
      exact ⟨_, _, rfl, .inr rfl, rfl⟩
    · exists x1, x2, x3, x4, hs, ns_eq, e_is e3
      exact ⟨_, _, rfl, .inr rfl, rfl⟩
  · obtain ⟨s5, s6, rfl, h5, h6⟩ := q
    exists e_indexes
    rw [ei, r16]
    refine wp_for (mk := fun i : Nat => D.int i) (fun _ ρ => ∃ s5 s6, ρ = [.ow d2, .sh (.lst thgs), .sh x, .sh y, .ow (.lst (idxC.map fun c => .err c [x])), s5, s6] ∧ (s5 = .ow (.lst idxL) ∨ s5 = .sh (.lst idxL)) ∧ okS (some s6) = true) ⟨_, s6, rfl, .inl rfl, h6⟩ (fun n i ρ hi q => ?_) fun ρ q => ?_
    · obtain ⟨s5, s6, rfl, h5, h6⟩ := q
      have hn : i < 16 := by
        have h1 := List.mem_of_getElem? hi
        exact List.mem_range.mp h1
      obtain ⟨c, a, e1, e2, e3, e4⟩ := idxs_22 i hn
      have x1 : ixD (.lst (idxC.map fun c => D.err c [x])) (.int i) = .ok (.err c [x], false) := ix_at (by rw [List.getElem?_map, e1]; rfl)
      have x2 : ixD (.lst (idxL ++ idxL)) (.int i) = .ok (.int a, false) := ix_at (by rw [idxL_2, List.getElem?_map, e2]; rfl)
      have x3 : addD no2 (.lst idxL) (.lst idxL) = .ok (.lst (idxL ++ idxL), true) := add_ll (by decide)
      have x4 : atErr (atTb xt_index) (.err c [x]) = .ok (x, false) := atErr_ok e4 rfl
      rcases h5 with rfl | rfl
      · exists x1, x2, x3, x4, hs, ns_eq, e_is e3
        exact ⟨_, _, rfl, .inr rfl, rfl⟩
      · exists x1, x2, x3, x4, hs, ns_eq, e_is e3
        exact ⟨_, _, rfl, .inr rfl, rfl⟩
    · obtain ⟨s5, s6, rfl, h5, h6⟩ := q
      exists e_others hx hy
      exact k _
end

--#NEW
/-! ### the whole law -/
@[reducible] def bodyW : Wd := [98, 111, 100, 121]
@[reducible] def handW : Wd := [104, 97, 110, 100]
@[reducible] def footW : Wd := [102, 111, 111, 116]
@[reducible] def load : Wd := [108, 111, 97, 100]
@[reducible] def manT : List Tie := [(bodyW, handW, 4), (bodyW, footW, 6)]
@[reducible] def manS : List Sg := [(97, 66, bodyW), (98, 72, handW), (99, 70, footW)]
@[reducible] def ssL : List Sg := [(97, 65, load), (98, 66, load)]
theorem pu_load : PuOk [load] [] [65, 66] ssL where
  p := ⟨by simp, by decide, by decide, fun w hw => by rw [List.mem_singleton.mp hw]; decide⟩
  t := ⟨⟨by simp, fun t h => (by cases h), fun t h => (by cases h), fun t h => (by cases h)⟩, fun t h => (by cases h), .nil, fun t h => (by cases h), by decide⟩
  h := ⟨by decide, by decide, by decide, by decide⟩
  s := ⟨by decide, by decide, by decide, by decide, fun s hs => by
    rcases List.mem_cons.mp hs with rfl | hs
    · simp
    · rw [List.mem_singleton.mp hs]; simp, by simp⟩
theorem pu_man : PuOk [bodyW, handW, footW] manT [66, 70, 72] manS where
  p := ⟨by simp, by decide, by decide, by decide⟩
  t := ⟨⟨by decide, by decide, by decide, by decide⟩, by decide, by decide, by decide, by decide⟩
  h := ⟨by decide, by decide, by decide, by decide⟩
  s := ⟨by decide, by decide, by decide, by decide, by decide, by simp⟩
theorem nx_t {own : D → D → R Rv} {xs : List D} (dk : dok dep (.tup xs) = true) : neD own (.tup xs) (.tup xs) = .ok (.bl false, false) := by rw [ne_g dk dk, eqv_refl dep _ dk]; rfl
theorem nx_l {own : D → D → R Rv} {xs : List D} (dk : dok dep (.lst xs) = true) : neD own (.lst xs) (.lst xs) = .ok (.bl false, false) := by rw [ne_g dk dk, eqv_refl dep _ dk]; rfl
theorem ex_t {own : D → D → R Rv} {xs : List D} (dk : dok dep (.tup xs) = true) : eqD own (.tup xs) (.tup xs) = .ok (.bl true, false) := by rw [eq_g dk dk, eqv_refl dep _ dk]
theorem e_man {kvs : List (List Ky × D)} (ep : mkObj 2 F_Puppet___init__ [psD [bodyW, handW, footW], tsD manT, .str [66, 70, 72], ssD manS] = .ok (pupD [bodyW, handW, footW] manT [66, 70, 72] manS kvs, false)) : F_stick_man [] = .ok (pupD [bodyW, handW, footW] manT [66, 70, 72] manS kvs, false) := by
  have ep : mkObj 2 F_Puppet___init__ [.tup [.str bodyW, .str handW, .str footW], .tup [.tup [.str bodyW, .str handW, .int 4], .tup [.str bodyW, .str footW, .int 6]], .str [66, 70, 72], .tup [.tup [.str [97], .str [66], .str bodyW], .tup [.str [98], .str [72], .str handW], .tup [.str [99], .str [70], .str footW]]] = .ok (pupD [bodyW, handW, footW] manT [66, 70, 72] manS kvs, false) := ep
  rw [o_stick_man]
  exists ep
theorem e_two {kvs : List (List Ky × D)} (ep : mkObj 2 F_Puppet___init__ [psD [load], tsD [], .str [65, 66], ssD ssL] = .ok (pupD [load] [] [65, 66] ssL kvs, false)) : F_two_lines [] = .ok (pupD [load] [] [65, 66] ssL kvs, false) := by
  have ep : mkObj 2 F_Puppet___init__ [.tup [.str load], .tup [], .str [65, 66], .tup [.tup [.str [97], .str [65], .str load], .tup [.str [98], .str [66], .str load]]] = .ok (pupD [load] [] [65, 66] ssL kvs, false) := ep
  rw [o_two_lines]
  exists ep
theorem e_same {kvs : List (List Ky × D)} : F_Puppet___eq__ [pupD [bodyW, handW, footW] manT [66, 70, 72] manS kvs, pupD [bodyW, handW, footW] manT [66, 70, 72] manS kvs] = .ok (.bl true, false) := by
  have n1 : neD no2 (psD [bodyW, handW, footW]) (psD [bodyW, handW, footW]) = .ok (.bl false, false) := nx_t (by with_unfolding_all rfl)
  have n2 : neD no2 (tsD manT) (tsD manT) = .ok (.bl false, false) := nx_t (by with_unfolding_all rfl)
  have n3 : eqD no2 (ssD manS) (ssD manS) = .ok (.bl true, false) := ex_t (by with_unfolding_all rfl)
  rw [o_Puppet___eq__]
  exists n1, n2, n3
theorem law_true (ns : List Int) (h : ns.length ≤ 63) : F_law [.fls (ns.map D.int)] = .ok (.bl true, false) := by
  obtain ⟨kvs, d, ep, _, _⟩ := e_puppet pu_man
  obtain ⟨kvs2, d2, ep2, _, _⟩ := e_puppet pu_load
  have m1 := e_man ep
  have m2 := e_two ep2
  have sm := e_same (kvs := kvs)
  have rl : ∃ s, reprA [.lst [.int 6, .int 10, .int 4, .int 6, .int 6, .int 3, .int 8, .int 1000000, .int 6, .int 4, .int 8, .int 6, .int 4]] = .ok (.str s, false) := rp_seq rfl (by decide +kernel)
  obtain ⟨s, hs⟩ := rl
  have pw : powD (.int 10) (.int 6) = .ok (.int 1000000, false) := by with_unfolding_all rfl
  have q1 : ∀ own, neD own (.lst [psD [bodyW, handW, footW], tsD manT]) (.lst [.tup [.str bodyW, .str handW, .str footW], .tup [.tup [.str bodyW, .str handW, .int 4], .tup [.str bodyW, .str footW, .int 6]]]) = .ok (.bl false, false) := fun own => nx_l (by with_unfolding_all rfl)
  have q2 : ∀ own, neD own (.lst [.str [66, 70, 72], ssD manS]) (.lst [.str [66, 70, 72], .tup [.tup [.str [97], .str [66], .str bodyW], .tup [.str [98], .str [72], .str handW], .tup [.str [99], .str [70], .str footW]]]) = .ok (.bl false, false) := fun own => nx_l (by with_unfolding_all rfl)
  have q3 : ∀ own, neD own (.lst [psD [load], tsD [], .str [65, 66], ssD ssL]) (.lst [.tup [.str load], .tup [], .str [65, 66], .tup [.tup [.str [97], .str [65], .str load], .tup [.str [98], .str [66], .str load]]]) = .ok (.bl false, false) := fun own => nx_l (by with_unfolding_all rfl)
  have sm : F_Puppet___eq__ [.ins 2 [psD [bodyW, handW, footW], tsD manT, .str [66, 70, 72], ssD manS, .str (nmS manS), .dct kvs], pupD [bodyW, handW, footW] manT [66, 70, 72] manS kvs] = .ok (.bl true, false) := sm
  refine Wn.eq ?_
  rw [o_law]
  exists pw, hs, ns_eq, m1, m2, rng_map, q1, q2, q3, sm
  refine wp_lc (fun n acc ρ => acc = List.replicate n (.bl true) ∧ ∃ s, ρ = [.sh (.fls (ns.map D.int)), .sh (.lst [.int 6, .int 10, .int 4, .int 6, .int 6, .int 3, .int 8, .int 1000000, .int 6, .int 4, .int 8, .int 6, .int 4]), .sh (pupD [bodyW, handW, footW] manT [66, 70, 72] manS kvs), .sh (pupD [load] [] [65, 66] ssL kvs2), .sh (.lst [psD [load], tsD [], .str [65, 66], ssD ssL]), s] ∧ okS (some s) = true) rfl (by rw [List.length_range]; omega) ⟨rfl, .un, rfl, rfl⟩ (fun n x acc ρ hx q => ?_) fun acc ρ q => ?_
  · obtain ⟨rfl, s, rfl, hs⟩ := q
    have hx2 := List.getElem?_eq_some_iff.mp hx
    obtain ⟨hl, e⟩ := hx2
    rw [List.length_range] at hl
    rw [List.getElem_range] at e
    subst e
    exists bnd_ok
    refine wp_bag (by omega) (by omega) fun b hb => ?_
    exists bnd_ok
    refine wp_right hb fun d' => ?_
    exists bnd_ok
    exact ⟨by rw [List.replicate_succ'], _, rfl, rfl⟩
  · obtain ⟨rfl, s, rfl, hs⟩ := q
    have e : ∀ n, List.replicate n (D.bl true) = (List.range n).map fun _ => D.bl true := fun n => by induction n with | zero => rfl | succ n ih => rw [List.replicate_succ', ih, List.range_succ, List.map_append]; rfl
    exists e, all_true

end DY

set_option Elab.async false
set_option linter.all false
set_option maxRecDepth 100000
set_option maxHeartbeats 4000000
namespace DY
open PySem L2 SL
def fdNmsB : List (String × String × String × Bool) := []
open Lean in
def fdOfB (x : Ident) : MacroM Term := do
  let s := x.getId.toString
  let i (p : String) : Ident := mkIdent (Name.mkSimple (p ++ s))
  let (n, q, b) := (fdNmsB.lookup s).getD (s, s, false)
  let d ← if b then `(.ref $(i "dt_")) else `(.none)
  `(PySem.W.fnOf $(quote n) $(quote q) (defArgs $(i "st_")) (defBody $(i "st_")) (defScope $(i "st_")) $d $(i "kV_") $(i "dc_") $(i "pm_") $(i "an_") $(i "cd_") $(i "ct_"))
open Lean in
local macro_rules
  | `(unop% $f:ident $x:ident) => do
    if f.getId != `fd then Macro.throwUnsupported
    if x.getId == `lr then `(by first | exact Or.inl rfl | exact Or.inr rfl) else fdOfB x
section Tbs
variable [Tb]
local macro_rules | `(tactic| walk_at "ne") => `(tactic| repeat' first
  | exact ne_var | exact ne_move | exact ne_c | exact ne_c0 | exact nes_nil | exact nn_pF | exact n2_p | exact n2_pF | exact n2_pFs | exact n1_pF | exact nn_mk | exact nn_mkD | exact n2_no | exact n1_no | exact n2_mulT
  | exact n2_fdiv | exact n2_mod | exact n2_pow | exact n2_lt | exact n2_le | exact n2_gt | exact n2_ge | exact n2_isN | exact n2_notN | exact n2_in | exact n2_nin | exact n2_ix | exact n2_join | exact n1_fld | exact n3_get
  | exact nn_isi | exact nn_abs | exact nn_int | exact nn_all | exact nn_any | exact nn_tuple | exact nn_tup | exact nn_lst | exact nn_mkey | exact trivial | exact ns_next | exact ns_no | exact ns_retN | exact ns_retV | exact ng_n | exact ngs_nil | exact ni_keys
  | refine nes_cons ?_ ?_ | refine ne_bin ?_ ?_ ?_ | refine ne_un ?_ ?_ | refine ne_n ?_ ?_ | refine ne_bor ?_ ?_ | refine ne_borR ?_ ?_ | refine ne_bor1 ?_ | refine ne_if ?_ ?_ ?_ | refine ne_and ?_ ?_ | refine ne_or ?_ ?_ | refine ne_not ?_
  | refine ne_chain ?_ ?_ ?_ ?_ ?_ | refine ne_get ?_ ?_ ?_ ?_ | refine ne_lc ?_ ?_ ?_ ?_ | refine ne_slice ?_ ?_ ?_ | refine ne_meth ?_ ?_ ?_ | refine ne_methK ?_ ?_ ?_ ?_ | refine ne_nk ?_ ?_ ?_ | refine ne_callR ?_ ?_ | refine ne_app ?_
  | refine n2_add ?_ | refine n2_sub ?_ | refine n2_mul ?_ | refine n1_neg ?_ | refine n2_eq ?_ | refine n2_ne ?_ | refine n1_len ?_ | refine nn_len ?_ | refine n2_sel ?_ ?_ | refine n1_sel1 ?_ ?_
  | refine ng_t ?_ | refine ngs_cons ?_ ?_ | refine ni_val ?_ | refine ni_range ?_ | refine ni_en ?_
  | refine ns_seq ?_ ?_ | refine ns_asg ?_ | refine ns_expr ?_ | refine ns_ret ?_ | refine ns_if ?_ ?_ ?_ | refine ns_asgT ?_ ?_ | refine ns_fld ?_ | refine ns_par ?_ ?_)
section
variable {P : Program} {w : World} {K : PySem.W.Frag} {mg : Str → Option Value} {base : Heap} {A : CT} {x : Fx}
theorem ok_Puppet___eq__ (T : Txt K mg base A x) : FnOk P w K mg base (L2.CX P w) 1 x.f_Puppet___eq__ x.d_Puppet___eq__ ["self", "other"] (spF K A F_Puppet___eq__ 2) := by
  refine SL.fun_ok T.F_Puppet___eq__ sc_Puppet___eq__ (fun vs H Q E h => h.1) (fun cdv Ar outer s H vs Q E hr h => ?_)
  exact ⟨liftS K A none mm_Puppet___eq__, (by unfold mm_Puppet___eq__; exact ((pdss_cons (pds_if (pdt_w (pdw_or (pdt_not (pdt_val (pd_callB (o_isi T.kd) (by rfl) T.n_isinstance (by decide +kernel) (pda_cons (pd_var (pv 1)) (pda_cons (pd_c (pe_glob (v := .ref (A.ad 2)) rfl T.g_Puppet rfl) fun _ => .cls 2 T.in_Puppet) pda_nil))))) (pdw_or (pdt_cmp (o_ne hr.units o_noNe) (pd_fld T.kd T.fl_Puppet_parts (pd_var (pv 0))) (pd_fld T.kd T.fl_Puppet_parts (pd_var (pv 1))) (nomark _)) (pdw_or1 (pdt_cmp (o_ne hr.units o_noNe) (pd_fld T.kd T.fl_Puppet_ties (pd_var (pv 0))) (pd_fld T.kd T.fl_Puppet_ties (pd_var (pv 1))) (nomark _)))))) (pdss_one (pds_ret pd_bl)) pdss_nil)
  (pdss_one (pds_ret (pd_and (pd_cmp (o_eq hr.units o_no) (pd_fld T.kd T.fl_Puppet_hooks (pd_var (pv 0))) (pd_fld T.kd T.fl_Puppet_hooks (pd_var (pv 1))) (nomark _)) (pd_one (pd_cmp (o_eq hr.units o_no) (pd_fld T.kd T.fl_Puppet_strings (pd_var (pv 0))) (pd_fld T.kd T.fl_Puppet_strings (pd_var (pv 1))) (nomark _))))))))), enter_F (p := 2) rfl (by decide) (by rw [q_Puppet___eq__] at h; exact h)⟩
theorem ok__law_bag (T : Txt K mg base A x) : FnOk P w K mg base (L2.CX P w) 1 x.f__law_bag x.d__law_bag ["_law_cells", "_law_k"] (spF K A F__law_bag 2) := by
  refine SL.fun_ok T.F__law_bag sc__law_bag (fun vs H Q E h => h.1) (fun cdv Ar outer s H vs Q E hr h => ?_)
  have pO : PassesOwn (model P w) (cxOf (L2.CX P w) P w K mg base nm__law_bag "_law_bag" (defScope st__law_bag) x.f__law_bag cdv Ar outer s H E).A (cxOf (L2.CX P w) P w K mg base nm__law_bag "_law_bag" (defScope st__law_bag) x.f__law_bag cdv Ar outer s H E).env (cxOf (L2.CX P w) P w K mg base nm__law_bag "_law_bag" (defScope st__law_bag) x.f__law_bag cdv Ar outer s H E).xe := passes_of rfl
  exact ⟨liftS K A none mm__law_bag, (by unfold mm__law_bag mt__law_bag_3 mt__law_bag_2 mt__law_bag_1; exact ((pdss_cons (pds_par (i := 2) (k := 3) rfl sc__law_bag.nd rfl rfl (by decide) rfl rfl (pd_if (pdt_cmp o_lt (pd_var (pv 1)) (PE.imp (pe_callB (o_lenb o_noN) (by rfl) T.n_len (by decide +kernel) (pa_cons (pv 0) pa_nil)) fun _ _ _ => bor1_use (nf_len nf_no1)) (nomark _)) (pd_callTy o_int (by rfl) T.n_int (by decide +kernel) (pda_cons (pd_borix hr.units1 (pv 0) (pd_var (pv 1)) (fun _ _ => rfl)) pda_nil)) pd_int) (pd_bin (o_mul o_no) pd_int (pd_bin (o_add o_no) (pd_var (pv 1)) pd_int)) (fun _ => by decide) (by rfl))
  (pdss_cons (pds_for pO rfl (pdi_val (pd_slice (pd_var (pv 0)) pdo_none (pdo_some pd_int))) (pdg_name (pg_name (i := 4) sc__law_bag.nd rfl (unop% fd lr))) (pdss_one (pds_set (i := 3) sc__law_bag.nd rfl (unop% fd lr) (pd_bin o_mod (pd_callTy o_int (by rfl) T.n_int (by decide +kernel) (pda_cons (pd_bin (o_add o_no) (pd_bin (o_add o_no) (pd_bin (o_mul o_no) (pd_var (pv 3)) pd_int) (pd_bin o_mod (pd_callTy o_int (by rfl) T.n_int (by decide +kernel) (pda_cons (pd_var (pv 4)) pda_nil)) pd_int)) (pd_bin (o_mul o_no) pd_int (pd_var (pv 1)))) pda_nil)) pd_int) (fun _ => by decide))))
  (pdss_cons (pds_set (i := 5) sc__law_bag.nd rfl (unop% fd lr) (pd_if (pdt_w (pdw_or (pdt_cmp o_lt (pd_var (pv 2)) pd_int (nomark _)) (pdw_or1 (pdt_cmp o_ge (pd_var (pv 2)) (pd_bin o_pow pd_int pd_int) (nomark _))))) (pd_callB o_abs (by rfl) T.n_abs (by decide +kernel) (pda_cons (pd_var (pv 2)) pda_nil)) pd_int) (fun _ => by decide))
  (pdss_one (pds_ret (pd_lst (pda_cons (pd_var (pv 5)) (pda_cons (pd_bin o_mod (pd_callTy o_int (by rfl) T.n_int (by decide +kernel) (pda_cons (pd_bin (o_add o_no) (pd_var (pv 3)) (pd_bin (o_mul o_no) pd_int (pd_bin o_mod (pd_callTy o_int (by rfl) T.n_int (by decide +kernel) (pda_cons (pd_var (pv 2)) pda_nil)) pd_int))) pda_nil)) pd_int) (pda_cons pd_int pda_nil))))))))))), enter_F (p := 2) rfl (by decide) (by rw [q__law_bag] at h; exact h)⟩
theorem ok__law_indexes (T : Txt K mg base A x) : FnOk P w K mg base (L2.CX P w) 2 x.f__law_indexes x.d__law_indexes ["_law_thing"] (spF K A F__law_indexes 1) := by
  refine SL.fun_ok T.F__law_indexes sc__law_indexes (fun vs H Q E h => h.1) (fun cdv Ar outer s H vs Q E hr h => ?_)
  exact ⟨liftS K A none mm__law_indexes, (by unfold mm__law_indexes mt__law_indexes_4 mt__law_indexes_3 mt__law_indexes_2 mt__law_indexes_1; exact ((pdss_cons (pds_set (i := 1) sc__law_indexes.nd rfl (unop% fd lr) (pd_lst (pda_cons (pd_err T.xv_InvalidFacts.pos T.kpx_InvalidFacts (hr.mono (by decide)) rfl T.g_InvalidFacts T.xin_InvalidFacts T.xl_InvalidFacts (pda_cons (pd_var (pv 0)) pda_nil)) (pda_cons (pd_err T.xv_InvalidParts.pos T.kpx_InvalidParts (hr.mono (by decide)) rfl T.g_InvalidParts T.xin_InvalidParts T.xl_InvalidParts (pda_cons (pd_var (pv 0)) pda_nil)) (pda_cons (pd_err T.xv_InvalidTies.pos T.kpx_InvalidTies (hr.mono (by decide)) rfl T.g_InvalidTies T.xin_InvalidTies T.xl_InvalidTies (pda_cons (pd_var (pv 0)) pda_nil)) (pda_cons (pd_err T.xv_InvalidStrings.pos T.kpx_InvalidStrings (hr.mono (by decide)) rfl T.g_InvalidStrings T.xin_InvalidStrings T.xl_InvalidStrings (pda_cons (pd_var (pv 0)) pda_nil)) pda_nil))))) (fun _ => by decide))
  (pdss_cons (pds_set (i := 1) sc__law_indexes.nd rfl (unop% fd lr) (pd_bin (o_add o_no) (pd_var (pv 1)) (pd_lst (pda_cons (pd_err T.xv_InvalidMoves.pos T.kpx_InvalidMoves (hr.mono (by decide)) rfl T.g_InvalidMoves T.xin_InvalidMoves T.xl_InvalidMoves (pda_cons (pd_var (pv 0)) pda_nil)) (pda_cons (pd_err T.xv_InvalidSights.pos T.kpx_InvalidSights (hr.mono (by decide)) rfl T.g_InvalidSights T.xin_InvalidSights T.xl_InvalidSights (pda_cons (pd_var (pv 0)) pda_nil)) (pda_cons (pd_err T.xv_InvalidGuards.pos T.kpx_InvalidGuards (hr.mono (by decide)) rfl T.g_InvalidGuards T.xin_InvalidGuards T.xl_InvalidGuards (pda_cons (pd_var (pv 0)) pda_nil)) (pda_cons (pd_err T.xv_NoWay.pos T.kpx_NoWay (hr.mono (by decide)) rfl T.g_NoWay T.xin_NoWay T.xl_NoWay (pda_cons (pd_var (pv 0)) pda_nil)) pda_nil)))))) (fun _ => by decide))
  (pdss_cons (pds_set (i := 1) sc__law_indexes.nd rfl (unop% fd lr) (pd_bin (o_add o_no) (pd_var (pv 1)) (pd_lst (pda_cons (pd_errK T.xv_InvalidFacts.kw T.kpx_InvalidFacts (hr.mono (by decide)) rfl T.g_InvalidFacts T.xin_InvalidFacts T.xl_InvalidFacts rfl (pdk_cons (pd_var (pv 0)) pdk_nil)) (pda_cons (pd_errK T.xv_InvalidParts.kw T.kpx_InvalidParts (hr.mono (by decide)) rfl T.g_InvalidParts T.xin_InvalidParts T.xl_InvalidParts rfl (pdk_cons (pd_var (pv 0)) pdk_nil)) (pda_cons (pd_errK T.xv_InvalidTies.kw T.kpx_InvalidTies (hr.mono (by decide)) rfl T.g_InvalidTies T.xin_InvalidTies T.xl_InvalidTies rfl (pdk_cons (pd_var (pv 0)) pdk_nil)) pda_nil))))) (fun _ => by decide))
  (pdss_cons (pds_set (i := 1) sc__law_indexes.nd rfl (unop% fd lr) (pd_bin (o_add o_no) (pd_var (pv 1)) (pd_lst (pda_cons (pd_errK T.xv_InvalidStrings.kw T.kpx_InvalidStrings (hr.mono (by decide)) rfl T.g_InvalidStrings T.xin_InvalidStrings T.xl_InvalidStrings rfl (pdk_cons (pd_var (pv 0)) pdk_nil)) (pda_cons (pd_errK T.xv_InvalidMoves.kw T.kpx_InvalidMoves (hr.mono (by decide)) rfl T.g_InvalidMoves T.xin_InvalidMoves T.xl_InvalidMoves rfl (pdk_cons (pd_var (pv 0)) pdk_nil)) pda_nil)))) (fun _ => by decide))
  (pdss_cons (pds_set (i := 1) sc__law_indexes.nd rfl (unop% fd lr) (pd_bin (o_add o_no) (pd_var (pv 1)) (pd_lst (pda_cons (pd_errK T.xv_InvalidSights.kw T.kpx_InvalidSights (hr.mono (by decide)) rfl T.g_InvalidSights T.xin_InvalidSights T.xl_InvalidSights rfl (pdk_cons (pd_var (pv 0)) pdk_nil)) (pda_cons (pd_errK T.xv_InvalidGuards.kw T.kpx_InvalidGuards (hr.mono (by decide)) rfl T.g_InvalidGuards T.xin_InvalidGuards T.xl_InvalidGuards rfl (pdk_cons (pd_var (pv 0)) pdk_nil)) (pda_cons (pd_errK T.xv_NoWay.kw T.kpx_NoWay (hr.mono (by decide)) rfl T.g_NoWay T.xin_NoWay T.xl_NoWay rfl (pdk_cons (pd_var (pv 0)) pdk_nil)) pda_nil))))) (fun _ => by decide))
  (pdss_one (pds_retV (pv 1) (by decide)))))))))), enter_F (p := 1) rfl (by decide) (by rw [q__law_indexes] at h; exact h)⟩
theorem ok__law_classes (T : Txt K mg base A x) : FnOk P w K mg base (L2.CX P w) 1 x.f__law_classes x.d__law_classes ["_law_e"] (spF K A F__law_classes 1) := by
  refine SL.fun_ok T.F__law_classes sc__law_classes (fun vs H Q E h => h.1) (fun cdv Ar outer s H vs Q E hr h => ?_)
  exact ⟨liftS K A none mm__law_classes, (by unfold mm__law_classes mt__law_classes_14 mt__law_classes_13 mt__law_classes_12 mt__law_classes_11 mt__law_classes_10 mt__law_classes_9 mt__law_classes_8 mt__law_classes_7 mt__law_classes_6 mt__law_classes_5 mt__law_classes_4 mt__law_classes_3 mt__law_classes_2 mt__law_classes_1; exact ((pdss_cons (pds_set (i := 1) sc__law_classes.nd rfl (unop% fd lr) (pd_lst (pda_cons (pd_isE (v := .ref (A.ad 21)) T.xa (isx_use T.hkx 1 rfl) (fun u h => h) rfl T.n_isinstance (pd_var (pv 0)) (pe_glob (v := .ref (A.ad 21)) rfl T.g_InvalidNumber rfl)) (pda_cons (pd_isE (v := .ref (A.ad 22)) T.xa (isx_use T.hkx 2 rfl) (fun u h => h) rfl T.n_isinstance (pd_var (pv 0)) (pe_glob (v := .ref (A.ad 22)) rfl T.g_InvalidText rfl)) (pda_cons (pd_isE (v := .ref (A.ad 23)) T.xa (isx_use T.hkx 3 rfl) (fun u h => h) rfl T.n_isinstance (pd_var (pv 0)) (pe_glob (v := .ref (A.ad 23)) rfl T.g_InvalidForm rfl)) pda_nil)))) (fun _ => by decide))
  (pdss_cons (pds_set (i := 1) sc__law_classes.nd rfl (unop% fd lr) (pd_bin (o_add o_no) (pd_var (pv 1)) (pd_lst (pda_cons (pd_isE (v := .ref (A.ad 24)) T.xa (isx_use T.hkx 4 rfl) (fun u h => h) rfl T.n_isinstance (pd_var (pv 0)) (pe_glob (v := .ref (A.ad 24)) rfl T.g_InvalidName rfl)) (pda_cons (pd_isE (v := .ref (A.ad 25)) T.xa (isx_use T.hkx 5 rfl) (fun u h => h) rfl T.n_isinstance (pd_var (pv 0)) (pe_glob (v := .ref (A.ad 25)) rfl T.g_InvalidFacts rfl)) pda_nil)))) (fun _ => by decide))
  (pdss_cons (pds_set (i := 1) sc__law_classes.nd rfl (unop% fd lr) (pd_bin (o_add o_no) (pd_var (pv 1)) (pd_lst (pda_cons (pd_isE (v := .ref (A.ad 26)) T.xa (isx_use T.hkx 6 rfl) (fun u h => h) rfl T.n_isinstance (pd_var (pv 0)) (pe_glob (v := .ref (A.ad 26)) rfl T.g_InvalidParts rfl)) (pda_cons (pd_isE (v := .ref (A.ad 27)) T.xa (isx_use T.hkx 7 rfl) (fun u h => h) rfl T.n_isinstance (pd_var (pv 0)) (pe_glob (v := .ref (A.ad 27)) rfl T.g_InvalidTies rfl)) pda_nil)))) (fun _ => by decide))
  (pdss_cons (pds_set (i := 1) sc__law_classes.nd rfl (unop% fd lr) (pd_bin (o_add o_no) (pd_var (pv 1)) (pd_lst (pda_cons (pd_isE (v := .ref (A.ad 28)) T.xa (isx_use T.hkx 8 rfl) (fun u h => h) rfl T.n_isinstance (pd_var (pv 0)) (pe_glob (v := .ref (A.ad 28)) rfl T.g_InvalidHooks rfl)) (pda_cons (pd_isE (v := .ref (A.ad 29)) T.xa (isx_use T.hkx 9 rfl) (fun u h => h) rfl T.n_isinstance (pd_var (pv 0)) (pe_glob (v := .ref (A.ad 29)) rfl T.g_InvalidStrings rfl)) pda_nil)))) (fun _ => by decide))
  (pdss_cons (pds_set (i := 1) sc__law_classes.nd rfl (unop% fd lr) (pd_bin (o_add o_no) (pd_var (pv 1)) (pd_lst (pda_cons (pd_isE (v := .ref (A.ad 30)) T.xa (isx_use T.hkx 10 rfl) (fun u h => h) rfl T.n_isinstance (pd_var (pv 0)) (pe_glob (v := .ref (A.ad 30)) rfl T.g_InvalidHeights rfl)) (pda_cons (pd_isE (v := .ref (A.ad 31)) T.xa (isx_use T.hkx 11 rfl) (fun u h => h) rfl T.n_isinstance (pd_var (pv 0)) (pe_glob (v := .ref (A.ad 31)) rfl T.g_InvalidLengths rfl)) pda_nil)))) (fun _ => by decide))
  (pdss_cons (pds_set (i := 1) sc__law_classes.nd rfl (unop% fd lr) (pd_bin (o_add o_no) (pd_var (pv 1)) (pd_lst (pda_cons (pd_isE (v := .ref (A.ad 32)) T.xa (isx_use T.hkx 12 rfl) (fun u h => h) rfl T.n_isinstance (pd_var (pv 0)) (pe_glob (v := .ref (A.ad 32)) rfl T.g_InvalidMoves rfl)) (pda_cons (pd_isE (v := .ref (A.ad 33)) T.xa (isx_use T.hkx 13 rfl) (fun u h => h) rfl T.n_isinstance (pd_var (pv 0)) (pe_glob (v := .ref (A.ad 33)) rfl T.g_InvalidMoment rfl)) pda_nil)))) (fun _ => by decide))
  (pdss_cons (pds_set (i := 1) sc__law_classes.nd rfl (unop% fd lr) (pd_bin (o_add o_no) (pd_var (pv 1)) (pd_lst (pda_cons (pd_isE (v := .ref (A.ad 34)) T.xa (isx_use T.hkx 14 rfl) (fun u h => h) rfl T.n_isinstance (pd_var (pv 0)) (pe_glob (v := .ref (A.ad 34)) rfl T.g_InvalidLevel rfl)) (pda_cons (pd_isE (v := .ref (A.ad 35)) T.xa (isx_use T.hkx 15 rfl) (fun u h => h) rfl T.n_isinstance (pd_var (pv 0)) (pe_glob (v := .ref (A.ad 35)) rfl T.g_InvalidWish rfl)) pda_nil)))) (fun _ => by decide))
  (pdss_cons (pds_set (i := 1) sc__law_classes.nd rfl (unop% fd lr) (pd_bin (o_add o_no) (pd_var (pv 1)) (pd_lst (pda_cons (pd_isE (v := .ref (A.ad 36)) T.xa (isx_use T.hkx 16 rfl) (fun u h => h) rfl T.n_isinstance (pd_var (pv 0)) (pe_glob (v := .ref (A.ad 36)) rfl T.g_InvalidSights rfl)) (pda_cons (pd_isE (v := .ref (A.ad 37)) T.xa (isx_use T.hkx 17 rfl) (fun u h => h) rfl T.n_isinstance (pd_var (pv 0)) (pe_glob (v := .ref (A.ad 37)) rfl T.g_InvalidGuards rfl)) pda_nil)))) (fun _ => by decide))
  (pdss_cons (pds_set (i := 1) sc__law_classes.nd rfl (unop% fd lr) (pd_bin (o_add o_no) (pd_var (pv 1)) (pd_lst (pda_cons (pd_isE (v := .ref (A.ad 38)) T.xa (isx_use T.hkx 18 rfl) (fun u h => h) rfl T.n_isinstance (pd_var (pv 0)) (pe_glob (v := .ref (A.ad 38)) rfl T.g_InvalidLine rfl)) (pda_cons (pd_isE (v := .ref (A.ad 39)) T.xa (isx_use T.hkx 19 rfl) (fun u h => h) rfl T.n_isinstance (pd_var (pv 0)) (pe_glob (v := .ref (A.ad 39)) rfl T.g_NotFacts rfl)) (pda_cons (pd_isE (v := .ref (A.ad 40)) T.xa (isx_use T.hkx 20 rfl) (fun u h => h) rfl T.n_isinstance (pd_var (pv 0)) (pe_glob (v := .ref (A.ad 40)) rfl T.g_NotAPuppet rfl)) pda_nil))))) (fun _ => by decide))
  (pdss_cons (pds_set (i := 1) sc__law_classes.nd rfl (unop% fd lr) (pd_bin (o_add o_no) (pd_var (pv 1)) (pd_lst (pda_cons (pd_isE (v := .ref (A.ad 41)) T.xa (isx_use T.hkx 21 rfl) (fun u h => h) rfl T.n_isinstance (pd_var (pv 0)) (pe_glob (v := .ref (A.ad 41)) rfl T.g_NotAScript rfl)) (pda_cons (pd_isE (v := .ref (A.ad 42)) T.xa (isx_use T.hkx 22 rfl) (fun u h => h) rfl T.n_isinstance (pd_var (pv 0)) (pe_glob (v := .ref (A.ad 42)) rfl T.g_NotARun rfl)) (pda_cons (pd_isE (v := .ref (A.ad 43)) T.xa (isx_use T.hkx 23 rfl) (fun u h => h) rfl T.n_isinstance (pd_var (pv 0)) (pe_glob (v := .ref (A.ad 43)) rfl T.g_NotAWish rfl)) pda_nil))))) (fun _ => by decide))
  (pdss_cons (pds_set (i := 1) sc__law_classes.nd rfl (unop% fd lr) (pd_bin (o_add o_no) (pd_var (pv 1)) (pd_lst (pda_cons (pd_isE (v := .ref (A.ad 45)) T.xa (isx_use T.hkx 25 rfl) (fun u h => h) rfl T.n_isinstance (pd_var (pv 0)) (pe_glob (v := .ref (A.ad 45)) rfl T.g_UnknownPart rfl)) (pda_cons (pd_isE (v := .ref (A.ad 46)) T.xa (isx_use T.hkx 26 rfl) (fun u h => h) rfl T.n_isinstance (pd_var (pv 0)) (pe_glob (v := .ref (A.ad 46)) rfl T.g_UnknownHook rfl)) pda_nil)))) (fun _ => by decide))
  (pdss_cons (pds_set (i := 1) sc__law_classes.nd rfl (unop% fd lr) (pd_bin (o_add o_no) (pd_var (pv 1)) (pd_lst (pda_cons (pd_isE (v := .ref (A.ad 47)) T.xa (isx_use T.hkx 27 rfl) (fun u h => h) rfl T.n_isinstance (pd_var (pv 0)) (pe_glob (v := .ref (A.ad 47)) rfl T.g_UnknownName rfl)) (pda_cons (pd_isE (v := .ref (A.ad 48)) T.xa (isx_use T.hkx 28 rfl) (fun u h => h) rfl T.n_isinstance (pd_var (pv 0)) (pe_glob (v := .ref (A.ad 48)) rfl T.g_NoWay rfl)) (pda_cons (pd_isE (v := .ref (A.ad 49)) T.xa (isx_use T.hkx 29 rfl) (fun u h => h) rfl T.n_isinstance (pd_var (pv 0)) (pe_glob (v := .ref (A.ad 49)) rfl T.g_OtherNames rfl)) pda_nil))))) (fun _ => by decide))
  (pdss_cons (pds_set (i := 1) sc__law_classes.nd rfl (unop% fd lr) (pd_bin (o_add o_no) (pd_var (pv 1)) (pd_lst (pda_cons (pd_isE (v := .ref (A.ad 50)) T.xa (isx_use T.hkx 30 rfl) (fun u h => h) rfl T.n_isinstance (pd_var (pv 0)) (pe_glob (v := .ref (A.ad 50)) rfl T.g_OtherParts rfl)) (pda_cons (pd_isE (v := .ref (A.ad 51)) T.xa (isx_use T.hkx 31 rfl) (fun u h => h) rfl T.n_isinstance (pd_var (pv 0)) (pe_glob (v := .ref (A.ad 51)) rfl T.g_Contradictory rfl)) (pda_cons (pd_isE (v := .ref (A.ad 52)) T.xa (isx_use T.hkx 32 rfl) (fun u h => h) rfl T.n_isinstance (pd_var (pv 0)) (pe_glob (v := .ref (A.ad 52)) rfl T.g_Never rfl)) pda_nil))))) (fun _ => by decide))
  (pdss_cons (pds_set (i := 1) sc__law_classes.nd rfl (unop% fd lr) (pd_bin (o_add o_no) (pd_var (pv 1)) (pd_lst (pda_cons (pd_isE (v := .ref (A.ad 53)) T.xa (isx_use T.hkx 33 rfl) (fun u h => h) rfl T.n_isinstance (pd_var (pv 0)) (pe_glob (v := .ref (A.ad 53)) rfl T.g_Busy rfl)) (pda_cons (pd_isE (v := .ref (A.ad 54)) T.xa (isx_use T.hkx 34 rfl) (fun u h => h) rfl T.n_isinstance (pd_var (pv 0)) (pe_glob (v := .ref (A.ad 54)) rfl T.g_NothingToUndo rfl)) (pda_cons (pd_isE (v := .ref (A.ad 55)) T.xa (isx_use T.hkx 35 rfl) (fun u h => h) rfl T.n_isinstance (pd_var (pv 0)) (pe_glob (v := .ref (A.ad 55)) rfl T.g_Refused rfl)) pda_nil))))) (fun _ => by decide))
  (pdss_cons (pds_set (i := 1) sc__law_classes.nd rfl (unop% fd lr) (pd_bin (o_add o_no) (pd_var (pv 1)) (pd_lst (pda_cons (pd_isE (v := .ref (A.ad 57)) T.xa (isx_use T.hkx 37 rfl) (fun u h => h) rfl T.n_isinstance (pd_var (pv 0)) (pe_glob (v := .ref (A.ad 57)) rfl T.g_TooMany rfl)) pda_nil))) (fun _ => by decide))
  (pdss_one (pds_retV (pv 1) (by decide)))))))))))))))))))), enter_F (p := 1) rfl (by decide) (by rw [q__law_classes] at h; exact h)⟩
theorem ok__law_is (T : Txt K mg base A x) : FnOk P w K mg base (L2.CX P w) 3 x.f__law_is x.d__law_is ["_law_e", "_law_at"] (spF K A F__law_is 2) := by
  refine SL.fun_ok T.F__law_is sc__law_is (fun vs H Q E h => h.1) (fun cdv Ar outer s H vs Q E hr h => ?_)
  exact ⟨liftS K A none mm__law_is, (by unfold mm__law_is mt__law_is_3 mt__law_is_2 mt__law_is_1; exact ((pdss_cons (pds_set (i := 2) sc__law_is.nd rfl (unop% fd lr) (pd_call hl__law_classes (ok__law_classes T) (hr.mono (by decide)) rfl T.g__law_classes T.kp__law_classes T.b__law_classes passL (pda_cons (pd_var (pv 0)) pda_nil)) (fun _ => by decide))
  (pdss_cons (pds_set (i := 3) sc__law_is.nd rfl (unop% fd lr) (pd_lst (pda_cons (pd_isE (v := .ref (A.ad 20)) T.xa (isx_use T.hkx 0 rfl) (fun u h => h) rfl T.n_isinstance (pd_var (pv 0)) (pe_glob (v := .ref (A.ad 20)) rfl T.g_ShapeError rfl)) (pda_cons (pd_isE (v := .ref (A.ad 44)) T.xa (isx_use T.hkx 24 rfl) (fun u h => h) rfl T.n_isinstance (pd_var (pv 0)) (pe_glob (v := .ref (A.ad 44)) rfl T.g_QuestionError rfl)) (pda_cons (pd_isE (v := .ref (A.ad 56)) T.xa (isx_use T.hkx 36 rfl) (fun u h => h) rfl T.n_isinstance (pd_var (pv 0)) (pe_glob (v := .ref (A.ad 56)) rfl T.g_SizeError rfl)) pda_nil)))) (fun _ => by decide))
  (pdss_cons (pds_set (i := 4) sc__law_is.nd rfl (unop% fd lr) (pd_lst (pda_cons (pd_isE (v := .ty "ValueError") T.xa (isx_use T.hkx 38 rfl) (fun u h => h) rfl T.n_isinstance (pd_var (pv 0)) (pe_bltn (v := .ty "ValueError") (by rfl) T.n_ValueError (by decide +kernel) rfl)) (pda_cons (pd_isE (v := .ty "LookupError") T.xa (isx_use T.hkx 39 rfl) (fun u h => h) rfl T.n_isinstance (pd_var (pv 0)) (pe_bltn (v := .ty "LookupError") (by rfl) T.n_LookupError (by decide +kernel) rfl)) (pda_cons (pd_isE (v := .ty "ArithmeticError") T.xa (isx_use T.hkx 40 rfl) (fun u h => h) rfl T.n_isinstance (pd_var (pv 0)) (pe_bltn (v := .ty "ArithmeticError") (by rfl) T.n_ArithmeticError (by decide +kernel) rfl)) pda_nil)))) (fun _ => by decide))
  (pdss_cons (pds_set (i := 5) sc__law_is.nd rfl (unop% fd lr) (pd_lst (pda_cons (pd_cmp o_lt (pd_var (pv 1)) pd_int (nomark _)) (pda_cons (pd_chain o_lt o_lt pd_int (pd_var (pv 1)) pd_int nf_lt) (pda_cons (pd_cmp (o_eq hr.units o_no) (pd_var (pv 1)) pd_int (nomark _)) pda_nil)))) (fun _ => by decide))
  (pdss_one (pds_ret (pd_and (pd_cmp (o_eq hr.units o_no) (pd_count (pd_var (pv 2)) (pda_cons pd_bl pda_nil) (fun h => pe_bm PySem.F.plainAttrs_list PySem.F.slot_list_count PySem.F.type_list_count h (pd_var (pv 2)) (pda_cons pd_bl pda_nil))) pd_int (nomark _)) (pd_and (pd_cmp (o_eq hr.units o_no) (pd_indexT (pd_var (pv 2)) (pda_cons pd_bl pda_nil) (fun h => pe_bm PySem.F.plainAttrs_list PySem.F.slot_list_index PySem.F.type_list_index h (pd_var (pv 2)) (pda_cons pd_bl pda_nil))) (pd_var (pv 1)) (nomark _)) (pd_and (pd_cmp (o_eq hr.units o_no) (pd_var (pv 3)) (pd_var (pv 5)) (nomark _)) (pd_one (pd_cmp (o_eq hr.units o_no) (pd_var (pv 4)) (pd_var (pv 5)) (nomark _)))))))))))))), enter_F (p := 2) rfl (by decide) (by rw [q__law_is] at h; exact h)⟩
theorem ok__law_draw (T : Txt K mg base A x) : FnOk P w K mg base (L2.CX P w) 1 x.f__law_draw x.d__law_draw ["_law_bag_here", "_law_wide"] (spR K A F__law_draw 2 0) := by
  refine SL.fun_ok T.F__law_draw sc__law_draw (fun vs H Q E h => h.1) (fun cdv Ar outer s H vs Q E hr h => ?_)
  exact ⟨liftS K A (some 0) mm__law_draw, (by unfold mm__law_draw mt__law_draw_5 mt__law_draw_4 mt__law_draw_3 mt__law_draw_2 mt__law_draw_1; exact ((pdss_cons (pds_put hr.units1 (pv 0) pd_int (pd_bin (o_add o_no) (pd_borix hr.units1 (pv 0) pd_int (fun _ _ => rfl)) pd_int))
  (pdss_cons (pds_if (pdt_cmp o_gt (pd_borix hr.units1 (pv 0) pd_int (fun _ _ => rfl)) pd_int (nomark _)) (pdss_cons (pds_set (i := 2) sc__law_draw.nd rfl (unop% fd lr) (pd_bin o_mod (pd_callTy o_int (by rfl) T.n_int (by decide +kernel) (pda_cons (pd_borix hr.units1 (pv 0) pd_int (fun _ _ => rfl)) pda_nil)) (pd_var (pv 1))) (fun _ => by decide))
  (pdss_cons (pds_put hr.units1 (pv 0) pd_int (pd_bin o_fdiv (pd_borix hr.units1 (pv 0) pd_int (fun _ _ => rfl)) (pd_var (pv 1))))
  (pdss_one (pds_retV (pv 2) (by decide))))) pdss_nil)
  (pdss_cons (pds_set (i := 3) sc__law_draw.nd rfl (unop% fd lr) (pd_bin (o_add o_no) (pd_callTy o_int (by rfl) T.n_int (by decide +kernel) (pda_cons (pd_borix hr.units1 (pv 0) pd_int (fun _ _ => rfl)) pda_nil)) (pd_bin (o_mul o_no) pd_int (pd_borix hr.units1 (pv 0) pd_int (fun _ _ => rfl)))) (fun _ => by decide))
  (pdss_cons (pds_set (i := 4) sc__law_draw.nd rfl (unop% fd lr) (pd_bin (o_add o_no) (pd_bin o_mod (pd_callTy o_int (by rfl) T.n_int (by decide +kernel) (pda_cons (pd_var (pv 3)) pda_nil)) pd_int) pd_int) (fun _ => by decide))
  (pdss_cons (pds_put hr.units1 (pv 0) pd_int (pd_bin o_mod (pd_callTy o_int (by rfl) T.n_int (by decide +kernel) (pda_cons (pd_bin (o_add o_no) (pd_bin (o_add o_no) (pd_bin (o_mul o_no) (pd_var (pv 3)) (pd_var (pv 4))) (pd_bin (o_mul o_no) pd_int (pd_borix hr.units1 (pv 0) pd_int (fun _ _ => rfl)))) pd_int) pda_nil)) pd_int))
  (pdss_one (pds_ret (pd_bin o_mod (pd_bin o_fdiv (pd_callTy o_int (by rfl) T.n_int (by decide +kernel) (pda_cons (pd_borix hr.units1 (pv 0) pd_int (fun _ _ => rfl)) pda_nil)) pd_int) (pd_var (pv 1)))))))))))), enter_R (p := 2) rfl (by decide) (by rw [q__law_draw] at h; exact h)⟩
theorem ok__law_one (T : Txt K mg base A x) : FnOk P w K mg base (L2.CX P w) 3 x.f__law_one x.d__law_one ["_law_bag_here", "_law_some"] (spR K A F__law_one 2 0) := by
  refine SL.fun_ok T.F__law_one sc__law_one (fun vs H Q E h => h.1) (fun cdv Ar outer s H vs Q E hr h => ?_)
  exact ⟨liftS K A (some 0) mm__law_one, (by unfold mm__law_one; exact ((pdss_one (pds_ret (pd_borix hr.units1 (pv 1) (pd_callR (ok__law_draw T) rfl rfl (hr.mono (by decide)) rfl T.g__law_draw T.kp__law_draw T.b__law_draw passL (par_nil (pv 0) (pda_cons (PE.imp (pe_callB (o_lenb o_noN) (by rfl) T.n_len (by decide +kernel) (pa_cons (pv 1) pa_nil)) fun _ _ _ => bor1_use (nf_len nf_no1)) pda_nil))) (fun _ _ => rfl)))))), enter_R (p := 2) rfl (by decide) (by rw [q__law_one] at h; exact h)⟩
theorem ok__law_others_right (T : Txt K mg base A x) : FnOk P w K mg base (L2.CX P w) 5 x.f__law_others_right x.d__law_others_right ["_law_thing", "_law_mate"] (spF K A F__law_others_right 2) := by
  refine SL.fun_ok T.F__law_others_right sc__law_others_right (fun vs H Q E h => h.1) (fun cdv Ar outer s H vs Q E hr h => ?_)
  exact ⟨liftS K A none mm__law_others_right, (by unfold mm__law_others_right mt__law_others_right_10 mt__law_others_right_9 mt__law_others_right_8 mt__law_others_right_7 mt__law_others_right_6 mt__law_others_right_5 mt__law_others_right_4 mt__law_others_right_3 mt__law_others_right_2 mt__law_others_right_1; exact ((pdss_cons (pds_set (i := 2) sc__law_others_right.nd rfl (unop% fd lr) (pd_lst (pda_cons (pd_err T.xv_Refused.pos T.kpx_Refused (hr.mono (by decide)) rfl T.g_Refused T.xin_Refused T.xl_Refused (pda_cons (pd_var (pv 0)) (pda_cons (pd_var (pv 1)) pda_nil))) (pda_cons (pd_errK T.xv_Refused.kw T.kpx_Refused (hr.mono (by decide)) rfl T.g_Refused T.xin_Refused T.xl_Refused rfl (pdk_cons (pd_var (pv 1)) (pdk_cons (pd_var (pv 0)) pdk_nil))) pda_nil))) (fun _ => by decide))
  (pdss_cons (pds_if (pdt_cmp (o_ne hr.units o_noNe) (pd_lc (by decide) (pe_lc (own := [("_law_e", 3)]) rfl sc__law_others_right.nd (pdi_val (pd_var (pv 2))) (blkOk_by (own := [("_law_e", 3)]) (N := nm__law_others_right) (sc := defScope st__law_others_right) (by decide +kernel)) (fun _ _ _ _ _ => (pdg_name (pg_name (i := 3) sc__law_others_right.nd rfl (unop% fd lr)))) (fun _ _ _ _ _ => (pdts_one (pdt_w (pdw_or (pdt_cmp (o_ne hr.units o_noNe) (pd_callB (o_reprZ T.sm hr.g (u65 hr)) (by rfl) T.n_repr (by decide +kernel) (pda_cons (pd_lst (pda_cons (pd_attrE T.xa T.gx_move (pd_var (pv 3))) (pda_cons (pd_attrE T.xa T.gx_shown (pd_var (pv 3))) pda_nil))) pda_nil)) (pd_callB (o_reprZ T.sm hr.g (u65 hr)) (by rfl) T.n_repr (by decide +kernel) (pda_cons (pd_lst (pda_cons (pd_var (pv 0)) (pda_cons (pd_var (pv 1)) pda_nil))) pda_nil)) (nomark _)) (pdw_or1 (pdt_not (pdt_val (pd_call hl__law_is (ok__law_is T) (hr.mono (by decide)) rfl T.g__law_is T.kp__law_is T.b__law_is passL (pda_cons (pd_var (pv 3)) (pda_cons pd_int pda_nil)))))))))) (fun _ _ _ _ _ => (pd_var (pv 3))))) (pd_lst pda_nil) (nomark _)) (pdss_one (pds_ret pd_bl)) pdss_nil)
  (pdss_cons (pds_set (i := 2) sc__law_others_right.nd rfl (unop% fd lr) (pd_lst (pda_cons (pd_err T.xv_OtherNames.pos T.kpx_OtherNames (hr.mono (by decide)) rfl T.g_OtherNames T.xin_OtherNames T.xl_OtherNames (pda_cons (pd_var (pv 0)) pda_nil)) (pda_cons (pd_errK T.xv_OtherNames.kw T.kpx_OtherNames (hr.mono (by decide)) rfl T.g_OtherNames T.xin_OtherNames T.xl_OtherNames rfl (pdk_cons (pd_var (pv 0)) pdk_nil)) pda_nil))) (fun _ => by decide))
  (pdss_cons (pds_if (pdt_cmp (o_ne hr.units o_noNe) (pd_lc (by decide) (pe_lc (own := [("_law_e", 3)]) rfl sc__law_others_right.nd (pdi_val (pd_var (pv 2))) (blkOk_by (own := [("_law_e", 3)]) (N := nm__law_others_right) (sc := defScope st__law_others_right) (by decide +kernel)) (fun _ _ _ _ _ => (pdg_name (pg_name (i := 3) sc__law_others_right.nd rfl (unop% fd lr)))) (fun _ _ _ _ _ => (pdts_one (pdt_w (pdw_or (pdt_cmp (o_ne hr.units o_noNe) (pd_callB (o_reprA hr.g (u65 hr)) (by rfl) T.n_repr (by decide +kernel) (pda_cons (pd_attrE T.xa T.gx_given (pd_var (pv 3))) pda_nil)) (pd_callB (o_reprA hr.g (u65 hr)) (by rfl) T.n_repr (by decide +kernel) (pda_cons (pd_var (pv 0)) pda_nil)) (nomark _)) (pdw_or1 (pdt_not (pdt_val (pd_call hl__law_is (ok__law_is T) (hr.mono (by decide)) rfl T.g__law_is T.kp__law_is T.b__law_is passL (pda_cons (pd_var (pv 3)) (pda_cons pd_int pda_nil)))))))))) (fun _ _ _ _ _ => (pd_var (pv 3))))) (pd_lst pda_nil) (nomark _)) (pdss_one (pds_ret pd_bl)) pdss_nil)
  (pdss_cons (pds_set (i := 2) sc__law_others_right.nd rfl (unop% fd lr) (pd_lst (pda_cons (pd_err T.xv_OtherParts.pos T.kpx_OtherParts (hr.mono (by decide)) rfl T.g_OtherParts T.xin_OtherParts T.xl_OtherParts (pda_cons (pd_var (pv 0)) pda_nil)) (pda_cons (pd_errK T.xv_OtherParts.kw T.kpx_OtherParts (hr.mono (by decide)) rfl T.g_OtherParts T.xin_OtherParts T.xl_OtherParts rfl (pdk_cons (pd_var (pv 0)) pdk_nil)) pda_nil))) (fun _ => by decide))
  (pdss_cons (pds_if (pdt_cmp (o_ne hr.units o_noNe) (pd_lc (by decide) (pe_lc (own := [("_law_e", 3)]) rfl sc__law_others_right.nd (pdi_val (pd_var (pv 2))) (blkOk_by (own := [("_law_e", 3)]) (N := nm__law_others_right) (sc := defScope st__law_others_right) (by decide +kernel)) (fun _ _ _ _ _ => (pdg_name (pg_name (i := 3) sc__law_others_right.nd rfl (unop% fd lr)))) (fun _ _ _ _ _ => (pdts_one (pdt_w (pdw_or (pdt_cmp (o_ne hr.units o_noNe) (pd_callB (o_reprA hr.g (u65 hr)) (by rfl) T.n_repr (by decide +kernel) (pda_cons (pd_attrE T.xa T.gx_given (pd_var (pv 3))) pda_nil)) (pd_callB (o_reprA hr.g (u65 hr)) (by rfl) T.n_repr (by decide +kernel) (pda_cons (pd_var (pv 0)) pda_nil)) (nomark _)) (pdw_or1 (pdt_not (pdt_val (pd_call hl__law_is (ok__law_is T) (hr.mono (by decide)) rfl T.g__law_is T.kp__law_is T.b__law_is passL (pda_cons (pd_var (pv 3)) (pda_cons pd_int pda_nil)))))))))) (fun _ _ _ _ _ => (pd_var (pv 3))))) (pd_lst pda_nil) (nomark _)) (pdss_one (pds_ret pd_bl)) pdss_nil)
  (pdss_cons (pds_set (i := 2) sc__law_others_right.nd rfl (unop% fd lr) (pd_lst (pda_cons (pd_err T.xv_Contradictory.pos T.kpx_Contradictory (hr.mono (by decide)) rfl T.g_Contradictory T.xin_Contradictory T.xl_Contradictory (pda_cons (pd_var (pv 0)) pda_nil)) (pda_cons (pd_errK T.xv_Contradictory.kw T.kpx_Contradictory (hr.mono (by decide)) rfl T.g_Contradictory T.xin_Contradictory T.xl_Contradictory rfl (pdk_cons (pd_var (pv 0)) pdk_nil)) pda_nil))) (fun _ => by decide))
  (pdss_cons (pds_if (pdt_cmp (o_ne hr.units o_noNe) (pd_lc (by decide) (pe_lc (own := [("_law_e", 3)]) rfl sc__law_others_right.nd (pdi_val (pd_var (pv 2))) (blkOk_by (own := [("_law_e", 3)]) (N := nm__law_others_right) (sc := defScope st__law_others_right) (by decide +kernel)) (fun _ _ _ _ _ => (pdg_name (pg_name (i := 3) sc__law_others_right.nd rfl (unop% fd lr)))) (fun _ _ _ _ _ => (pdts_one (pdt_w (pdw_or (pdt_cmp (o_ne hr.units o_noNe) (pd_callB (o_reprA hr.g (u65 hr)) (by rfl) T.n_repr (by decide +kernel) (pda_cons (pd_attrE T.xa T.gx_weights (pd_var (pv 3))) pda_nil)) (pd_callB (o_reprA hr.g (u65 hr)) (by rfl) T.n_repr (by decide +kernel) (pda_cons (pd_var (pv 0)) pda_nil)) (nomark _)) (pdw_or1 (pdt_not (pdt_val (pd_call hl__law_is (ok__law_is T) (hr.mono (by decide)) rfl T.g__law_is T.kp__law_is T.b__law_is passL (pda_cons (pd_var (pv 3)) (pda_cons pd_int pda_nil)))))))))) (fun _ _ _ _ _ => (pd_var (pv 3))))) (pd_lst pda_nil) (nomark _)) (pdss_one (pds_ret pd_bl)) pdss_nil)
  (pdss_cons (pds_set (i := 2) sc__law_others_right.nd rfl (unop% fd lr) (pd_lst (pda_cons (pd_err T.xv_TooMany.pos T.kpx_TooMany (hr.mono (by decide)) rfl T.g_TooMany T.xin_TooMany T.xl_TooMany (pda_cons (pd_var (pv 0)) pda_nil)) (pda_cons (pd_errK T.xv_TooMany.kw T.kpx_TooMany (hr.mono (by decide)) rfl T.g_TooMany T.xin_TooMany T.xl_TooMany rfl (pdk_cons (pd_var (pv 0)) pdk_nil)) pda_nil))) (fun _ => by decide))
  (pdss_cons (pds_if (pdt_cmp (o_ne hr.units o_noNe) (pd_lc (by decide) (pe_lc (own := [("_law_e", 3)]) rfl sc__law_others_right.nd (pdi_val (pd_var (pv 2))) (blkOk_by (own := [("_law_e", 3)]) (N := nm__law_others_right) (sc := defScope st__law_others_right) (by decide +kernel)) (fun _ _ _ _ _ => (pdg_name (pg_name (i := 3) sc__law_others_right.nd rfl (unop% fd lr)))) (fun _ _ _ _ _ => (pdts_one (pdt_w (pdw_or (pdt_cmp (o_ne hr.units o_noNe) (pd_callB (o_reprA hr.g (u65 hr)) (by rfl) T.n_repr (by decide +kernel) (pda_cons (pd_attrE T.xa T.gx_limit (pd_var (pv 3))) pda_nil)) (pd_callB (o_reprA hr.g (u65 hr)) (by rfl) T.n_repr (by decide +kernel) (pda_cons (pd_var (pv 0)) pda_nil)) (nomark _)) (pdw_or1 (pdt_not (pdt_val (pd_call hl__law_is (ok__law_is T) (hr.mono (by decide)) rfl T.g__law_is T.kp__law_is T.b__law_is passL (pda_cons (pd_var (pv 3)) (pda_cons pd_int pda_nil)))))))))) (fun _ _ _ _ _ => (pd_var (pv 3))))) (pd_lst pda_nil) (nomark _)) (pdss_one (pds_ret pd_bl)) pdss_nil)
  (pdss_cons (pds_set (i := 4) sc__law_others_right.nd rfl (unop% fd lr) (pd_lst (pda_cons (pd_call hl__law_is (ok__law_is T) (hr.mono (by decide)) rfl T.g__law_is T.kp__law_is T.b__law_is passL (pda_cons (pd_err0 T.xv_Never T.kpx_Never (hr.mono (by decide)) rfl T.g_Never T.xin_Never T.xm_Never) (pda_cons pd_int pda_nil))) (pda_cons (pd_call hl__law_is (ok__law_is T) (hr.mono (by decide)) rfl T.g__law_is T.kp__law_is T.b__law_is passL (pda_cons (pd_err0 T.xv_Busy T.kpx_Busy (hr.mono (by decide)) rfl T.g_Busy T.xin_Busy T.xm_Busy) (pda_cons pd_int pda_nil))) pda_nil))) (fun _ => by decide))
  (pdss_one (pds_ret (pd_cmp (o_eq hr.units o_no) (pd_bin (o_add o_no) (pd_var (pv 4)) (pd_lst (pda_cons (pd_call hl__law_is (ok__law_is T) (hr.mono (by decide)) rfl T.g__law_is T.kp__law_is T.b__law_is passL (pda_cons (pd_err0 T.xv_NothingToUndo T.kpx_NothingToUndo (hr.mono (by decide)) rfl T.g_NothingToUndo T.xin_NothingToUndo T.xm_NothingToUndo) (pda_cons pd_int pda_nil))) pda_nil))) (pd_bin (o_mul o_no) (pd_lst (pda_cons pd_bl pda_nil)) pd_int) (nomark _))))))))))))))))), enter_F (p := 2) rfl (by decide) (by rw [q__law_others_right] at h; exact h)⟩
theorem ok__law_values (T : Txt K mg base A x) : FnOk P w K mg base (L2.CX P w) 2 x.f__law_values x.d__law_values ["_law_thing"] (spF K A F__law_values 1) := by
  refine SL.fun_ok T.F__law_values sc__law_values (fun vs H Q E h => h.1) (fun cdv Ar outer s H vs Q E hr h => ?_)
  exact ⟨liftS K A none mm__law_values, (by unfold mm__law_values mt__law_values_11 mt__law_values_10 mt__law_values_9 mt__law_values_8 mt__law_values_7 mt__law_values_6 mt__law_values_5 mt__law_values_4 mt__law_values_3 mt__law_values_2 mt__law_values_1; exact ((pdss_cons (pds_set (i := 1) sc__law_values.nd rfl (unop% fd lr) (pd_lst (pda_cons (pd_err T.xv_InvalidNumber.pos T.kpx_InvalidNumber (hr.mono (by decide)) rfl T.g_InvalidNumber T.xin_InvalidNumber T.xl_InvalidNumber (pda_cons (pd_var (pv 0)) pda_nil)) (pda_cons (pd_err T.xv_InvalidText.pos T.kpx_InvalidText (hr.mono (by decide)) rfl T.g_InvalidText T.xin_InvalidText T.xl_InvalidText (pda_cons (pd_var (pv 0)) pda_nil)) (pda_cons (pd_err T.xv_InvalidForm.pos T.kpx_InvalidForm (hr.mono (by decide)) rfl T.g_InvalidForm T.xin_InvalidForm T.xl_InvalidForm (pda_cons (pd_var (pv 0)) pda_nil)) (pda_cons (pd_err T.xv_InvalidName.pos T.kpx_InvalidName (hr.mono (by decide)) rfl T.g_InvalidName T.xin_InvalidName T.xl_InvalidName (pda_cons (pd_var (pv 0)) pda_nil)) pda_nil))))) (fun _ => by decide))
  (pdss_cons (pds_set (i := 1) sc__law_values.nd rfl (unop% fd lr) (pd_bin (o_add o_no) (pd_var (pv 1)) (pd_lst (pda_cons (pd_err T.xv_InvalidHooks.pos T.kpx_InvalidHooks (hr.mono (by decide)) rfl T.g_InvalidHooks T.xin_InvalidHooks T.xl_InvalidHooks (pda_cons (pd_var (pv 0)) pda_nil)) (pda_cons (pd_err T.xv_InvalidHeights.pos T.kpx_InvalidHeights (hr.mono (by decide)) rfl T.g_InvalidHeights T.xin_InvalidHeights T.xl_InvalidHeights (pda_cons (pd_var (pv 0)) pda_nil)) (pda_cons (pd_err T.xv_InvalidLengths.pos T.kpx_InvalidLengths (hr.mono (by decide)) rfl T.g_InvalidLengths T.xin_InvalidLengths T.xl_InvalidLengths (pda_cons (pd_var (pv 0)) pda_nil)) pda_nil))))) (fun _ => by decide))
  (pdss_cons (pds_set (i := 1) sc__law_values.nd rfl (unop% fd lr) (pd_bin (o_add o_no) (pd_var (pv 1)) (pd_lst (pda_cons (pd_err T.xv_InvalidMoment.pos T.kpx_InvalidMoment (hr.mono (by decide)) rfl T.g_InvalidMoment T.xin_InvalidMoment T.xl_InvalidMoment (pda_cons (pd_var (pv 0)) pda_nil)) (pda_cons (pd_err T.xv_InvalidLevel.pos T.kpx_InvalidLevel (hr.mono (by decide)) rfl T.g_InvalidLevel T.xin_InvalidLevel T.xl_InvalidLevel (pda_cons (pd_var (pv 0)) pda_nil)) (pda_cons (pd_err T.xv_InvalidWish.pos T.kpx_InvalidWish (hr.mono (by decide)) rfl T.g_InvalidWish T.xin_InvalidWish T.xl_InvalidWish (pda_cons (pd_var (pv 0)) pda_nil)) pda_nil))))) (fun _ => by decide))
  (pdss_cons (pds_set (i := 1) sc__law_values.nd rfl (unop% fd lr) (pd_bin (o_add o_no) (pd_var (pv 1)) (pd_lst (pda_cons (pd_err T.xv_InvalidLine.pos T.kpx_InvalidLine (hr.mono (by decide)) rfl T.g_InvalidLine T.xin_InvalidLine T.xl_InvalidLine (pda_cons (pd_var (pv 0)) pda_nil)) (pda_cons (pd_err T.xv_NotFacts.pos T.kpx_NotFacts (hr.mono (by decide)) rfl T.g_NotFacts T.xin_NotFacts T.xl_NotFacts (pda_cons (pd_var (pv 0)) pda_nil)) (pda_cons (pd_err T.xv_NotAPuppet.pos T.kpx_NotAPuppet (hr.mono (by decide)) rfl T.g_NotAPuppet T.xin_NotAPuppet T.xl_NotAPuppet (pda_cons (pd_var (pv 0)) pda_nil)) (pda_cons (pd_err T.xv_NotAScript.pos T.kpx_NotAScript (hr.mono (by decide)) rfl T.g_NotAScript T.xin_NotAScript T.xl_NotAScript (pda_cons (pd_var (pv 0)) pda_nil)) pda_nil)))))) (fun _ => by decide))
  (pdss_cons (pds_set (i := 1) sc__law_values.nd rfl (unop% fd lr) (pd_bin (o_add o_no) (pd_var (pv 1)) (pd_lst (pda_cons (pd_err T.xv_NotARun.pos T.kpx_NotARun (hr.mono (by decide)) rfl T.g_NotARun T.xin_NotARun T.xl_NotARun (pda_cons (pd_var (pv 0)) pda_nil)) (pda_cons (pd_err T.xv_NotAWish.pos T.kpx_NotAWish (hr.mono (by decide)) rfl T.g_NotAWish T.xin_NotAWish T.xl_NotAWish (pda_cons (pd_var (pv 0)) pda_nil)) (pda_cons (pd_err T.xv_UnknownPart.pos T.kpx_UnknownPart (hr.mono (by decide)) rfl T.g_UnknownPart T.xin_UnknownPart T.xl_UnknownPart (pda_cons (pd_var (pv 0)) pda_nil)) (pda_cons (pd_err T.xv_UnknownHook.pos T.kpx_UnknownHook (hr.mono (by decide)) rfl T.g_UnknownHook T.xin_UnknownHook T.xl_UnknownHook (pda_cons (pd_var (pv 0)) pda_nil)) pda_nil)))))) (fun _ => by decide))
  (pdss_cons (pds_set (i := 1) sc__law_values.nd rfl (unop% fd lr) (pd_bin (o_add o_no) (pd_var (pv 1)) (pd_lst (pda_cons (pd_err T.xv_UnknownName.pos T.kpx_UnknownName (hr.mono (by decide)) rfl T.g_UnknownName T.xin_UnknownName T.xl_UnknownName (pda_cons (pd_var (pv 0)) pda_nil)) (pda_cons (pd_errK T.xv_InvalidNumber.kw T.kpx_InvalidNumber (hr.mono (by decide)) rfl T.g_InvalidNumber T.xin_InvalidNumber T.xl_InvalidNumber rfl (pdk_cons (pd_var (pv 0)) pdk_nil)) (pda_cons (pd_errK T.xv_InvalidText.kw T.kpx_InvalidText (hr.mono (by decide)) rfl T.g_InvalidText T.xin_InvalidText T.xl_InvalidText rfl (pdk_cons (pd_var (pv 0)) pdk_nil)) pda_nil))))) (fun _ => by decide))
  (pdss_cons (pds_set (i := 1) sc__law_values.nd rfl (unop% fd lr) (pd_bin (o_add o_no) (pd_var (pv 1)) (pd_lst (pda_cons (pd_errK T.xv_InvalidForm.kw T.kpx_InvalidForm (hr.mono (by decide)) rfl T.g_InvalidForm T.xin_InvalidForm T.xl_InvalidForm rfl (pdk_cons (pd_var (pv 0)) pdk_nil)) (pda_cons (pd_errK T.xv_InvalidName.kw T.kpx_InvalidName (hr.mono (by decide)) rfl T.g_InvalidName T.xin_InvalidName T.xl_InvalidName rfl (pdk_cons (pd_var (pv 0)) pdk_nil)) (pda_cons (pd_errK T.xv_InvalidHooks.kw T.kpx_InvalidHooks (hr.mono (by decide)) rfl T.g_InvalidHooks T.xin_InvalidHooks T.xl_InvalidHooks rfl (pdk_cons (pd_var (pv 0)) pdk_nil)) pda_nil))))) (fun _ => by decide))
  (pdss_cons (pds_set (i := 1) sc__law_values.nd rfl (unop% fd lr) (pd_bin (o_add o_no) (pd_var (pv 1)) (pd_lst (pda_cons (pd_errK T.xv_InvalidHeights.kw T.kpx_InvalidHeights (hr.mono (by decide)) rfl T.g_InvalidHeights T.xin_InvalidHeights T.xl_InvalidHeights rfl (pdk_cons (pd_var (pv 0)) pdk_nil)) (pda_cons (pd_errK T.xv_InvalidLengths.kw T.kpx_InvalidLengths (hr.mono (by decide)) rfl T.g_InvalidLengths T.xin_InvalidLengths T.xl_InvalidLengths rfl (pdk_cons (pd_var (pv 0)) pdk_nil)) pda_nil)))) (fun _ => by decide))
  (pdss_cons (pds_set (i := 1) sc__law_values.nd rfl (unop% fd lr) (pd_bin (o_add o_no) (pd_var (pv 1)) (pd_lst (pda_cons (pd_errK T.xv_InvalidMoment.kw T.kpx_InvalidMoment (hr.mono (by decide)) rfl T.g_InvalidMoment T.xin_InvalidMoment T.xl_InvalidMoment rfl (pdk_cons (pd_var (pv 0)) pdk_nil)) (pda_cons (pd_errK T.xv_InvalidLevel.kw T.kpx_InvalidLevel (hr.mono (by decide)) rfl T.g_InvalidLevel T.xin_InvalidLevel T.xl_InvalidLevel rfl (pdk_cons (pd_var (pv 0)) pdk_nil)) (pda_cons (pd_errK T.xv_InvalidWish.kw T.kpx_InvalidWish (hr.mono (by decide)) rfl T.g_InvalidWish T.xin_InvalidWish T.xl_InvalidWish rfl (pdk_cons (pd_var (pv 0)) pdk_nil)) pda_nil))))) (fun _ => by decide))
  (pdss_cons (pds_set (i := 1) sc__law_values.nd rfl (unop% fd lr) (pd_bin (o_add o_no) (pd_var (pv 1)) (pd_lst (pda_cons (pd_errK T.xv_InvalidLine.kw T.kpx_InvalidLine (hr.mono (by decide)) rfl T.g_InvalidLine T.xin_InvalidLine T.xl_InvalidLine rfl (pdk_cons (pd_var (pv 0)) pdk_nil)) (pda_cons (pd_errK T.xv_NotFacts.kw T.kpx_NotFacts (hr.mono (by decide)) rfl T.g_NotFacts T.xin_NotFacts T.xl_NotFacts rfl (pdk_cons (pd_var (pv 0)) pdk_nil)) (pda_cons (pd_errK T.xv_NotAPuppet.kw T.kpx_NotAPuppet (hr.mono (by decide)) rfl T.g_NotAPuppet T.xin_NotAPuppet T.xl_NotAPuppet rfl (pdk_cons (pd_var (pv 0)) pdk_nil)) pda_nil))))) (fun _ => by decide))
  (pdss_cons (pds_set (i := 1) sc__law_values.nd rfl (unop% fd lr) (pd_bin (o_add o_no) (pd_var (pv 1)) (pd_lst (pda_cons (pd_errK T.xv_NotAScript.kw T.kpx_NotAScript (hr.mono (by decide)) rfl T.g_NotAScript T.xin_NotAScript T.xl_NotAScript rfl (pdk_cons (pd_var (pv 0)) pdk_nil)) (pda_cons (pd_errK T.xv_NotARun.kw T.kpx_NotARun (hr.mono (by decide)) rfl T.g_NotARun T.xin_NotARun T.xl_NotARun rfl (pdk_cons (pd_var (pv 0)) pdk_nil)) (pda_cons (pd_errK T.xv_NotAWish.kw T.kpx_NotAWish (hr.mono (by decide)) rfl T.g_NotAWish T.xin_NotAWish T.xl_NotAWish rfl (pdk_cons (pd_var (pv 0)) pdk_nil)) pda_nil))))) (fun _ => by decide))
  (pdss_cons (pds_set (i := 1) sc__law_values.nd rfl (unop% fd lr) (pd_bin (o_add o_no) (pd_var (pv 1)) (pd_lst (pda_cons (pd_errK T.xv_UnknownPart.kw T.kpx_UnknownPart (hr.mono (by decide)) rfl T.g_UnknownPart T.xin_UnknownPart T.xl_UnknownPart rfl (pdk_cons (pd_var (pv 0)) pdk_nil)) (pda_cons (pd_errK T.xv_UnknownHook.kw T.kpx_UnknownHook (hr.mono (by decide)) rfl T.g_UnknownHook T.xin_UnknownHook T.xl_UnknownHook rfl (pdk_cons (pd_var (pv 0)) pdk_nil)) (pda_cons (pd_errK T.xv_UnknownName.kw T.kpx_UnknownName (hr.mono (by decide)) rfl T.g_UnknownName T.xin_UnknownName T.xl_UnknownName rfl (pdk_cons (pd_var (pv 0)) pdk_nil)) pda_nil))))) (fun _ => by decide))
  (pdss_one (pds_retV (pv 1) (by decide))))))))))))))))), enter_F (p := 1) rfl (by decide) (by rw [q__law_values] at h; exact h)⟩
theorem ok__law_right (T : Txt K mg base A x) : FnOk P w K mg base (L2.CX P w) 7 x.f__law_right x.d__law_right ["_law_bag_here"] (spR K A F__law_right 1 0) := by
  refine SL.fun_ok T.F__law_right sc__law_right (fun vs H Q E h => h.1) (fun cdv Ar outer s H vs Q E hr h => ?_)
  have pO : PassesOwn (model P w) (cxOf (L2.CX P w) P w K mg base nm__law_right "_law_right" (defScope st__law_right) x.f__law_right cdv Ar outer s H E).A (cxOf (L2.CX P w) P w K mg base nm__law_right "_law_right" (defScope st__law_right) x.f__law_right cdv Ar outer s H E).env (cxOf (L2.CX P w) P w K mg base nm__law_right "_law_right" (defScope st__law_right) x.f__law_right cdv Ar outer s H E).xe := passes_of rfl
  exact ⟨liftS K A (some 0) mm__law_right, (by unfold mm__law_right mt__law_right_9 mt__law_right_8 mt__law_right_7 mt__law_right_6 mt__law_right_5 mt__law_right_4 mt__law_right_3 mt__law_right_2 mt__law_right_1; exact ((pdss_cons (pds_set (i := 1) sc__law_right.nd rfl (unop% fd lr) (pd_lst (pda_cons (pd_bin (o_add o_no) (pd_bin o_pow pd_int pd_int) pd_int) (pda_cons pd_non (pda_cons (pd_str (by decide +kernel)) (pda_cons (pd_tup (pda_cons pd_int (pda_cons (pd_str (by decide +kernel)) pda_nil))) (pda_cons (pd_lst (pda_cons pd_int pda_nil)) (pda_cons pd_dnew (pda_cons pd_bl (pda_cons (pd_un (o_neg o_no1) pd_int) (pda_cons (pd_tup (pda_cons (pd_str (by decide +kernel)) (pda_cons (pd_tup pda_nil) pda_nil))) (pda_cons (pd_str (by decide +kernel)) pda_nil))))))))))) (fun _ => by decide))
  (pdss_cons (pds_par (i := 2) (k := 3) rfl sc__law_right.nd rfl rfl (by decide) rfl rfl (pd_callR (ok__law_one T) rfl rfl (hr.mono (by decide)) rfl T.g__law_one T.kp__law_one T.b__law_one passL (par_nil (pv 0) (pda_cons (pd_var (pv 1)) pda_nil))) (pd_callR (ok__law_one T) rfl rfl (hr.mono (by decide)) rfl T.g__law_one T.kp__law_one T.b__law_one passL (par_nil (pv 0) (pda_cons (pd_var (pv 1)) pda_nil))) (fun _ => by decide) (by rfl))
  (pdss_cons (pds_set (i := 4) sc__law_right.nd rfl (unop% fd lr) (pd_call hl__law_values (ok__law_values T) (hr.mono (by decide)) rfl T.g__law_values T.kp__law_values T.b__law_values passL (pda_cons (pd_var (pv 2)) pda_nil)) (fun _ => by decide))
  (pdss_cons (pds_set (i := 5) sc__law_right.nd rfl (unop% fd lr) (pd_lst (pda_cons pd_int (pda_cons pd_int (pda_cons pd_int (pda_cons pd_int (pda_cons pd_int (pda_cons pd_int (pda_cons pd_int (pda_cons pd_int (pda_cons pd_int (pda_cons pd_int (pda_cons pd_int (pda_cons pd_int (pda_cons pd_int (pda_cons pd_int (pda_cons pd_int (pda_cons pd_int (pda_cons pd_int (pda_cons pd_int (pda_cons pd_int pda_nil)))))))))))))))))))) (fun _ => by decide))
  (pdss_cons (pds_for pO rfl (pdi_range1 (by rfl) T.n_range (pda_cons pd_int pda_nil)) (pdg_name (pg_name (i := 6) sc__law_right.nd rfl (unop% fd lr))) (pdss_one (pds_if (pdt_w (pdw_or (pdt_cmp (o_ne hr.units o_noNe) (pd_callB (o_reprA hr.g (u65 hr)) (by rfl) T.n_repr (by decide +kernel) (pda_cons (pd_attrE T.xa T.gx_value (pd_borix hr.units1 (pv 4) (pd_var (pv 6)) (fun _ _ => rfl))) pda_nil)) (pd_callB (o_reprA hr.g (u65 hr)) (by rfl) T.n_repr (by decide +kernel) (pda_cons (pd_var (pv 2)) pda_nil)) (nomark _)) (pdw_or1 (pdt_not (pdt_val (pd_call hl__law_is (ok__law_is T) (hr.mono (by decide)) rfl T.g__law_is T.kp__law_is T.b__law_is passL (pda_cons (pd_borix hr.units1 (pv 4) (pd_var (pv 6)) (fun _ _ => rfl)) (pda_cons (pd_ix (o_ix hr.units1) (pd_bin (o_add o_no) (pd_var (pv 5)) (pd_var (pv 5))) (pd_var (pv 6)) (fun _ _ => rfl)) pda_nil)))))))) (pdss_one (pds_ret pd_bl)) pdss_nil)))
  (pdss_cons (pds_set (i := 4) sc__law_right.nd rfl (unop% fd lr) (pd_call hl__law_indexes (ok__law_indexes T) (hr.mono (by decide)) rfl T.g__law_indexes T.kp__law_indexes T.b__law_indexes passL (pda_cons (pd_var (pv 2)) pda_nil)) (fun _ => by decide))
  (pdss_cons (pds_set (i := 5) sc__law_right.nd rfl (unop% fd lr) (pd_lst (pda_cons pd_int (pda_cons pd_int (pda_cons pd_int (pda_cons pd_int (pda_cons pd_int (pda_cons pd_int (pda_cons pd_int (pda_cons pd_int pda_nil))))))))) (fun _ => by decide))
  (pdss_cons (pds_for pO rfl (pdi_range1 (by rfl) T.n_range (pda_cons pd_int pda_nil)) (pdg_name (pg_name (i := 6) sc__law_right.nd rfl (unop% fd lr))) (pdss_one (pds_if (pdt_w (pdw_or (pdt_cmp (o_ne hr.units o_noNe) (pd_callB (o_reprA hr.g (u65 hr)) (by rfl) T.n_repr (by decide +kernel) (pda_cons (pd_attrE T.xa T.gx_index (pd_borix hr.units1 (pv 4) (pd_var (pv 6)) (fun _ _ => rfl))) pda_nil)) (pd_callB (o_reprA hr.g (u65 hr)) (by rfl) T.n_repr (by decide +kernel) (pda_cons (pd_var (pv 2)) pda_nil)) (nomark _)) (pdw_or1 (pdt_not (pdt_val (pd_call hl__law_is (ok__law_is T) (hr.mono (by decide)) rfl T.g__law_is T.kp__law_is T.b__law_is passL (pda_cons (pd_borix hr.units1 (pv 4) (pd_var (pv 6)) (fun _ _ => rfl)) (pda_cons (pd_ix (o_ix hr.units1) (pd_bin (o_add o_no) (pd_var (pv 5)) (pd_var (pv 5))) (pd_var (pv 6)) (fun _ _ => rfl)) pda_nil)))))))) (pdss_one (pds_ret pd_bl)) pdss_nil)))
  (pdss_one (pds_ret (pd_call hl__law_others_right (ok__law_others_right T) (hr.mono (by decide)) rfl T.g__law_others_right T.kp__law_others_right T.b__law_others_right passL (pda_cons (pd_var (pv 2)) (pda_cons (pd_var (pv 3)) pda_nil))))))))))))))), enter_R (p := 1) rfl (by decide) (by rw [q__law_right] at h; exact h)⟩
theorem ok_are_great (T : Txt K mg base A x) : FnOk P w K mg base (L2.CX P w) 1 x.f_are_great x.d_are_great ["value", "least", "most"] (spF K A F_are_great 3) := by
  refine SL.fun_ok T.F_are_great sc_are_great (fun vs H Q E h => h.1) (fun cdv Ar outer s H vs Q E hr h => ?_)
  exact ⟨liftS K A none mm_are_great, (by unfold mm_are_great; exact ((pdss_cons (pds_if (pdt_w (pdw_or (pdt_not (pdt_val (pd_callB (o_isi T.kd) (by rfl) T.n_isinstance (by decide +kernel) (pda_cons (pd_var (pv 0)) (pda_cons (pd_c (pe_bltn (v := .ty "str") (by rfl) T.n_str (by decide +kernel) rfl) fun _ => .ty .str) pda_nil))))) (pdw_or1 (pdt_not (pdt_chain o_le o_le (pd_var (pv 1)) (PE.imp (pe_callB (o_lenb o_noN) (by rfl) T.n_len (by decide +kernel) (pa_cons (pv 0) pa_nil)) fun _ _ _ => bor1_use (nf_len nf_no1)) (pd_var (pv 2)) nf_le))))) (pdss_one (pds_ret pd_bl)) pdss_nil)
  (pdss_one (pds_ret (pd_callB (o_all rfl) (by rfl) T.n_all (by decide +kernel) (pda_cons (pd_lc (by decide) (pe_lc (own := [("sign", 3)]) rfl sc_are_great.nd (pdi_val (pd_var (pv 0))) (blkOk_by (own := [("sign", 3)]) (N := nm_are_great) (sc := defScope st_are_great) (by decide +kernel)) (fun _ _ _ _ _ => (pdg_name (pg_name (i := 3) sc_are_great.nd rfl (unop% fd lr)))) (fun _ _ _ _ _ => pdts_nil) (fun _ _ _ _ _ => (pd_chain o_le o_le (pd_str (by decide +kernel)) (pd_var (pv 3)) (pd_str (by decide +kernel)) nf_le)))) pda_nil))))))), enter_F (p := 3) rfl (by decide) (by rw [q_are_great] at h; exact h)⟩
theorem ok_in_order (T : Txt K mg base A x) : FnOk P w K mg base (L2.CX P w) 1 x.f_in_order x.d_in_order ["text"] (spF K A F_in_order 1) := by
  refine SL.fun_ok T.F_in_order sc_in_order (fun vs H Q E h => h.1) (fun cdv Ar outer s H vs Q E hr h => ?_)
  exact ⟨liftS K A none mm_in_order, (by unfold mm_in_order; exact ((pdss_one (pds_ret (pd_callB (o_all rfl) (by rfl) T.n_all (by decide +kernel) (pda_cons (pd_lc (by decide) (pe_lc (own := [("at", 1)]) rfl sc_in_order.nd (pdi_range2 (by rfl) T.n_range (pda_cons pd_int (pda_cons (PE.imp (pe_callB (o_lenb o_noN) (by rfl) T.n_len (by decide +kernel) (pa_cons (pv 0) pa_nil)) fun _ _ _ => bor1_use (nf_len nf_no1)) pda_nil))) (blkOk_by (own := [("at", 1)]) (N := nm_in_order) (sc := defScope st_in_order) (by decide +kernel)) (fun _ _ _ _ _ => (pdg_name (pg_name (i := 1) sc_in_order.nd rfl (unop% fd lr)))) (fun _ _ _ _ _ => pdts_nil) (fun _ _ _ _ _ => (pd_cmp o_lt (pd_borix hr.units1 (pv 0) (pd_bin (o_sub o_no) (pd_var (pv 1)) pd_int) (fun _ _ => rfl)) (pd_borix hr.units1 (pv 0) (pd_var (pv 1)) (fun _ _ => rfl)) (nomark _))))) pda_nil)))))), enter_F (p := 1) rfl (by decide) (by rw [q_in_order] at h; exact h)⟩
theorem ok_check_hooks (T : Txt K mg base A x) : FnOk P w K mg base (L2.CX P w) 3 x.f_check_hooks x.d_check_hooks ["hooks"] (spF K A F_check_hooks 1) := by
  refine SL.fun_ok T.F_check_hooks sc_check_hooks (fun vs H Q E h => h.1) (fun cdv Ar outer s H vs Q E hr h => ?_)
  exact ⟨liftS K A none mm_check_hooks, (by unfold mm_check_hooks; exact ((pdss_one (pds_if (pdt_w (pdw_or (pdt_not (pdt_val (pd_call hl_are_great (ok_are_great T) (hr.mono (by decide)) rfl T.g_are_great T.kp_are_great T.b_are_great passL (pda_cons (pd_var (pv 0)) (pda_cons pd_int (pda_cons (pd_c (pe_glob (v := .int 4) rfl T.k_MOST_HOOKS.choose_spec ⟨_, rfl⟩) fun _ => .int 4) pda_nil)))))) (pdw_or1 (pdt_not (pdt_val (pd_call hl_in_order (ok_in_order T) (hr.mono (by decide)) rfl T.g_in_order T.kp_in_order T.b_in_order passL (pda_cons (pd_var (pv 0)) pda_nil))))))) (pdss_one pds_no) pdss_nil)))), enter_F (p := 1) rfl (by decide) (by rw [q_check_hooks] at h; exact h)⟩
theorem ok_are_small (T : Txt K mg base A x) : FnOk P w K mg base (L2.CX P w) 1 x.f_are_small x.d_are_small ["value", "least", "most"] (spF K A F_are_small 3) := by
  refine SL.fun_ok T.F_are_small sc_are_small (fun vs H Q E h => h.1) (fun cdv Ar outer s H vs Q E hr h => ?_)
  exact ⟨liftS K A none mm_are_small, (by unfold mm_are_small; exact ((pdss_cons (pds_if (pdt_w (pdw_or (pdt_not (pdt_val (pd_callB (o_isi T.kd) (by rfl) T.n_isinstance (by decide +kernel) (pda_cons (pd_var (pv 0)) (pda_cons (pd_c (pe_bltn (v := .ty "str") (by rfl) T.n_str (by decide +kernel) rfl) fun _ => .ty .str) pda_nil))))) (pdw_or1 (pdt_not (pdt_chain o_le o_le (pd_var (pv 1)) (PE.imp (pe_callB (o_lenb o_noN) (by rfl) T.n_len (by decide +kernel) (pa_cons (pv 0) pa_nil)) fun _ _ _ => bor1_use (nf_len nf_no1)) (pd_var (pv 2)) nf_le))))) (pdss_one (pds_ret pd_bl)) pdss_nil)
  (pdss_one (pds_ret (pd_callB (o_all rfl) (by rfl) T.n_all (by decide +kernel) (pda_cons (pd_lc (by decide) (pe_lc (own := [("sign", 3)]) rfl sc_are_small.nd (pdi_val (pd_var (pv 0))) (blkOk_by (own := [("sign", 3)]) (N := nm_are_small) (sc := defScope st_are_small) (by decide +kernel)) (fun _ _ _ _ _ => (pdg_name (pg_name (i := 3) sc_are_small.nd rfl (unop% fd lr)))) (fun _ _ _ _ _ => pdts_nil) (fun _ _ _ _ _ => (pd_chain o_le o_le (pd_str (by decide +kernel)) (pd_var (pv 3)) (pd_str (by decide +kernel)) nf_le)))) pda_nil))))))), enter_F (p := 3) rfl (by decide) (by rw [q_are_small] at h; exact h)⟩
theorem ok_check_parts (T : Txt K mg base A x) : FnOk P w K mg base (L2.CX P w) 3 x.f_check_parts x.d_check_parts ["parts"] (spF K A F_check_parts 1) := by
  refine SL.fun_ok T.F_check_parts sc_check_parts (fun vs H Q E h => h.1) (fun cdv Ar outer s H vs Q E hr h => ?_)
  have pO : PassesOwn (model P w) (cxOf (L2.CX P w) P w K mg base nm_check_parts "check_parts" (defScope st_check_parts) x.f_check_parts cdv Ar outer s H E).A (cxOf (L2.CX P w) P w K mg base nm_check_parts "check_parts" (defScope st_check_parts) x.f_check_parts cdv Ar outer s H E).env (cxOf (L2.CX P w) P w K mg base nm_check_parts "check_parts" (defScope st_check_parts) x.f_check_parts cdv Ar outer s H E).xe := passes_of rfl
  exact ⟨liftS K A none mm_check_parts, (by unfold mm_check_parts mt_check_parts_1; exact ((pdss_cons (pds_if (pdt_w (pdw_or (pdt_not (pdt_val (pd_callB (o_isi T.kd) (by rfl) T.n_isinstance (by decide +kernel) (pda_cons (pd_var (pv 0)) (pda_cons (pd_c (pe_bltn (v := .ty "tuple") (by rfl) T.n_tuple (by decide +kernel) rfl) fun _ => .ty .tuple) pda_nil))))) (pdw_or1 (pdt_not (pdt_chain o_le o_le pd_int (PE.imp (pe_callB (o_lenb o_noN) (by rfl) T.n_len (by decide +kernel) (pa_cons (pv 0) pa_nil)) fun _ _ _ => bor1_use (nf_len nf_no1)) (pd_c (pe_glob (v := .int 6) rfl T.k_MOST_PARTS.choose_spec ⟨_, rfl⟩) fun _ => .int 6) nf_le))))) (pdss_one pds_no) pdss_nil)
  (pdss_one (pds_for pO rfl (pdi_enum (by rfl) T.n_enumerate (pda_cons (pd_var (pv 0)) pda_nil)) (pdg_tup rfl (pdgs_cons (pdg_name (pg_name (i := 1) sc_check_parts.nd rfl (unop% fd lr))) (pdgs_cons (pdg_name (pg_name (i := 2) sc_check_parts.nd rfl (unop% fd lr))) pdgs_nil))) (pdss_one (pds_if (pdt_w (pdw_or (pdt_not (pdt_val (pd_call hl_are_small (ok_are_small T) (hr.mono (by decide)) rfl T.g_are_small T.kp_are_small T.b_are_small passL (pda_cons (pd_var (pv 2)) (pda_cons pd_int (pda_cons pd_int pda_nil)))))) (pdw_or1 (pdt_cmp (o_in (u65 hr)) (pd_var (pv 2)) (pd_slice (pd_var (pv 0)) pdo_none (pdo_some (pd_var (pv 1)))) (by with_unfolding_all rfl))))) (pdss_one pds_no) pdss_nil))))))), enter_F (p := 1) rfl (by decide) (by rw [q_check_parts] at h; exact h)⟩
theorem ok_is_string (T : Txt K mg base A x) : FnOk P w K mg base (L2.CX P w) 3 x.f_is_string x.d_is_string ["parts", "hooks", "before", "value"] (spF K A F_is_string 4) := by
  refine SL.fun_ok T.F_is_string sc_is_string (fun vs H Q E h => h.1) (fun cdv Ar outer s H vs Q E hr h => ?_)
  exact ⟨liftS K A none mm_is_string, (by unfold mm_is_string; exact ((pdss_cons (pds_if (pdt_w (pdw_or (pdt_not (pdt_val (pd_callB (o_isi T.kd) (by rfl) T.n_isinstance (by decide +kernel) (pda_cons (pd_var (pv 3)) (pda_cons (pd_c (pe_bltn (v := .ty "tuple") (by rfl) T.n_tuple (by decide +kernel) rfl) fun _ => .ty .tuple) pda_nil))))) (pdw_or (pdt_cmp (o_ne hr.units o_noNe) (PE.imp (pe_callB (o_lenb o_noN) (by rfl) T.n_len (by decide +kernel) (pa_cons (pv 3) pa_nil)) fun _ _ _ => bor1_use (nf_len nf_no1)) pd_int (nomark _)) (pdw_or (pdt_not (pdt_val (pd_call hl_are_small (ok_are_small T) (hr.mono (by decide)) rfl T.g_are_small T.kp_are_small T.b_are_small passL (pda_cons (pd_borix hr.units1 (pv 3) pd_int (fun _ _ => rfl)) (pda_cons pd_int (pda_cons pd_int pda_nil)))))) (pdw_or1 (pdt_cmp o_le (pd_borix hr.units1 (pv 3) pd_int (fun _ _ => rfl)) (pd_var (pv 2)) (nomark _))))))) (pdss_one (pds_ret pd_bl)) pdss_nil)
  (pdss_one (pds_ret (pd_and (pd_call hl_are_great (ok_are_great T) (hr.mono (by decide)) rfl T.g_are_great T.kp_are_great T.b_are_great passL (pda_cons (pd_borix hr.units1 (pv 3) pd_int (fun _ _ => rfl)) (pda_cons pd_int (pda_cons pd_int pda_nil)))) (pd_and (pd_borin (u65 hr) (pd_borix hr.units1 (pv 3) pd_int (fun _ _ => rfl)) (pv 1) (by with_unfolding_all rfl)) (pd_one (pd_borin (u65 hr) (pd_borix hr.units1 (pv 3) pd_int (fun _ _ => rfl)) (pv 0) (by with_unfolding_all rfl)))))))))), enter_F (p := 4) rfl (by decide) (by rw [q_is_string] at h; exact h)⟩
theorem ok_check_strings (T : Txt K mg base A x) : FnOk P w K mg base (L2.CX P w) 5 x.f_check_strings x.d_check_strings ["parts", "hooks", "strings"] (spF K A F_check_strings 3) := by
  refine SL.fun_ok T.F_check_strings sc_check_strings (fun vs H Q E h => h.1) (fun cdv Ar outer s H vs Q E hr h => ?_)
  have pO : PassesOwn (model P w) (cxOf (L2.CX P w) P w K mg base nm_check_strings "check_strings" (defScope st_check_strings) x.f_check_strings cdv Ar outer s H E).A (cxOf (L2.CX P w) P w K mg base nm_check_strings "check_strings" (defScope st_check_strings) x.f_check_strings cdv Ar outer s H E).env (cxOf (L2.CX P w) P w K mg base nm_check_strings "check_strings" (defScope st_check_strings) x.f_check_strings cdv Ar outer s H E).xe := passes_of rfl
  exact ⟨liftS K A none mm_check_strings, (by unfold mm_check_strings mt_check_strings_2 mt_check_strings_1; exact ((pdss_cons (pds_if (pdt_w (pdw_or (pdt_not (pdt_val (pd_callB (o_isi T.kd) (by rfl) T.n_isinstance (by decide +kernel) (pda_cons (pd_var (pv 2)) (pda_cons (pd_c (pe_bltn (v := .ty "tuple") (by rfl) T.n_tuple (by decide +kernel) rfl) fun _ => .ty .tuple) pda_nil))))) (pdw_or1 (pdt_not (pdt_chain o_le o_le pd_int (PE.imp (pe_callB (o_lenb o_noN) (by rfl) T.n_len (by decide +kernel) (pa_cons (pv 2) pa_nil)) fun _ _ _ => bor1_use (nf_len nf_no1)) (pd_c (pe_glob (v := .int 6) rfl T.k_MOST_STRINGS.choose_spec ⟨_, rfl⟩) fun _ => .int 6) nf_le))))) (pdss_one pds_no) pdss_nil)
  (pdss_cons (pds_set (i := 3) sc_check_strings.nd rfl (unop% fd lr) (pd_str (by decide +kernel)) (fun _ => by decide))
  (pdss_one (pds_for pO rfl (pdi_enum (by rfl) T.n_enumerate (pda_cons (pd_var (pv 2)) pda_nil)) (pdg_tup rfl (pdgs_cons (pdg_name (pg_name (i := 4) sc_check_strings.nd rfl (unop% fd lr))) (pdgs_cons (pdg_name (pg_name (i := 5) sc_check_strings.nd rfl (unop% fd lr))) pdgs_nil))) (pdss_cons (pds_if (pdt_not (pdt_val (pd_call hl_is_string (ok_is_string T) (hr.mono (by decide)) rfl T.g_is_string T.kp_is_string T.b_is_string passL (pda_cons (pd_var (pv 0)) (pda_cons (pd_var (pv 1)) (pda_cons (pd_var (pv 3)) (pda_cons (pd_var (pv 5)) pda_nil))))))) (pdss_one pds_no) pdss_nil)
  (pdss_one (pds_set (i := 3) sc_check_strings.nd rfl (unop% fd lr) (pd_borix hr.units1 (pv 5) pd_int (fun _ _ => rfl)) (fun _ => by decide)))))))))), enter_F (p := 3) rfl (by decide) (by rw [q_check_strings] at h; exact h)⟩
theorem ok_is_integer (T : Txt K mg base A x) : FnOk P w K mg base (L2.CX P w) 1 x.f_is_integer x.d_is_integer ["value"] (spF K A F_is_integer 1) := by
  refine SL.fun_ok T.F_is_integer sc_is_integer (fun vs H Q E h => h.1) (fun cdv Ar outer s H vs Q E hr h => ?_)
  exact ⟨liftS K A none mm_is_integer, (by unfold mm_is_integer; exact ((pdss_one (pds_ret (pd_and (pd_callB (o_isi T.kd) (by rfl) T.n_isinstance (by decide +kernel) (pda_cons (pd_var (pv 0)) (pda_cons (pd_c (pe_bltn (v := .ty "int") (by rfl) T.n_int (by decide +kernel) rfl) fun _ => .ty .int) pda_nil))) (pd_one (pd_not (pd_callB (o_isi T.kd) (by rfl) T.n_isinstance (by decide +kernel) (pda_cons (pd_var (pv 0)) (pda_cons (pd_c (pe_bltn (v := .ty "bool") (by rfl) T.n_bool (by decide +kernel) rfl) fun _ => .ty .bool) pda_nil)))))))))), enter_F (p := 1) rfl (by decide) (by rw [q_is_integer] at h; exact h)⟩
theorem ok_is_number (T : Txt K mg base A x) : FnOk P w K mg base (L2.CX P w) 3 x.f_is_number x.d_is_number ["value", "most"] (spF K A F_is_number 2) := by
  refine SL.funD_ok T.F_is_number sc_is_number (fun vs H Q E h => h.1) (fun cdv Ar outer s H vs Q E hr h => ?_)
  exact ⟨liftS K A none mm_is_number, (by unfold mm_is_number; exact ((pdss_one (pds_ret (pd_and (pd_call hl_is_integer (ok_is_integer T) (hr.mono (by decide)) rfl T.g_is_integer T.kp_is_integer T.b_is_integer passL (pda_cons (pd_var (pv 0)) pda_nil)) (pd_and (pd_cmp o_ge (pd_var (pv 0)) pd_int (nomark _)) (pd_one (pd_or (pd_cmp o_isN (pd_var (pv 1)) pd_non (nomark _)) (pd_one (pd_cmp o_le (pd_var (pv 0)) (pd_var (pv 1)) (nomark _))))))))))), enter_F (p := 2) rfl (by decide) (by rw [q_is_number] at h; exact h)⟩
theorem ok_is_tie (T : Txt K mg base A x) : FnOk P w K mg base (L2.CX P w) 5 x.f_is_tie x.d_is_tie ["parts", "tied", "value"] (spR K A F_is_tie 3 1) := by
  refine SL.fun_ok T.F_is_tie sc_is_tie (fun vs H Q E h => h.1) (fun cdv Ar outer s H vs Q E hr h => ?_)
  exact ⟨liftS K A (some 1) mm_is_tie, (by unfold mm_is_tie mt_is_tie_2 mt_is_tie_1; exact ((pdss_cons (pds_if (pdt_w (pdw_or (pdt_not (pdt_val (pd_callB (o_isi T.kd) (by rfl) T.n_isinstance (by decide +kernel) (pda_cons (pd_var (pv 2)) (pda_cons (pd_c (pe_bltn (v := .ty "tuple") (by rfl) T.n_tuple (by decide +kernel) rfl) fun _ => .ty .tuple) pda_nil))))) (pdw_or (pdt_cmp (o_ne hr.units o_noNe) (PE.imp (pe_callB (o_lenb o_noN) (by rfl) T.n_len (by decide +kernel) (pa_cons (pv 2) pa_nil)) fun _ _ _ => bor1_use (nf_len nf_no1)) pd_int (nomark _)) (pdw_or1 (pdt_not (pdt_val (pd_call hl_is_number (ok_is_number T) (hr.mono (by decide)) rfl T.g_is_number T.kp_is_number T.b_is_number passL (pda_cons (pd_borix hr.units1 (pv 2) pd_int (fun _ _ => rfl)) (pda_cons (pd_c (pe_glob (v := .int 1000000) rfl T.k_MOST_AMOUNT.choose_spec ⟨_, rfl⟩) fun _ => .int 1000000) pda_nil))))))))) (pdss_one (pds_ret pd_bl)) pdss_nil)
  (pdss_cons (pds_par (i := 3) (k := 4) rfl sc_is_tie.nd rfl rfl (by decide) rfl rfl (pd_borix hr.units1 (pv 2) pd_int (fun _ _ => rfl)) (pd_borix hr.units1 (pv 2) pd_int (fun _ _ => rfl)) (fun _ => by decide) (by rfl))
  (pdss_cons (pds_if (pdt_w (pdw_or (pdt_bornin (u65 hr) (pd_var (pv 3)) (pv 0) (by with_unfolding_all rfl)) (pdw_or (pdt_bornin (u65 hr) (pd_var (pv 4)) (pv 0) (by with_unfolding_all rfl)) (pdw_or1 (pdt_cmp (o_eq hr.units o_no) (pd_var (pv 3)) (pd_var (pv 4)) (nomark _)))))) (pdss_one (pds_ret pd_bl)) pdss_nil)
  (pdss_one (pds_ret (pd_and (pd_bornin (u65 hr) (pd_key (pda_cons (pd_var (pv 3)) (pda_cons (pd_var (pv 4)) pda_nil))) (pv 1) (by with_unfolding_all rfl)) (pd_one (pd_bornin (u65 hr) (pd_key (pda_cons (pd_var (pv 4)) (pda_cons (pd_var (pv 3)) pda_nil))) (pv 1) (by with_unfolding_all rfl))))))))))), enter_R (p := 3) rfl (by decide) (by rw [q_is_tie] at h; exact h)⟩
theorem ok_check_ties (T : Txt K mg base A x) : FnOk P w K mg base (L2.CX P w) 7 x.f_check_ties x.d_check_ties ["parts", "ties"] (spF K A F_check_ties 2) := by
  refine SL.fun_ok T.F_check_ties sc_check_ties (fun vs H Q E h => h.1) (fun cdv Ar outer s H vs Q E hr h => ?_)
  have pO : PassesOwn (model P w) (cxOf (L2.CX P w) P w K mg base nm_check_ties "check_ties" (defScope st_check_ties) x.f_check_ties cdv Ar outer s H E).A (cxOf (L2.CX P w) P w K mg base nm_check_ties "check_ties" (defScope st_check_ties) x.f_check_ties cdv Ar outer s H E).env (cxOf (L2.CX P w) P w K mg base nm_check_ties "check_ties" (defScope st_check_ties) x.f_check_ties cdv Ar outer s H E).xe := passes_of rfl
  exact ⟨liftS K A none mm_check_ties, (by unfold mm_check_ties mt_check_ties_2 mt_check_ties_1; exact ((pdss_cons (pds_if (pdt_w (pdw_or (pdt_not (pdt_val (pd_callB (o_isi T.kd) (by rfl) T.n_isinstance (by decide +kernel) (pda_cons (pd_var (pv 1)) (pda_cons (pd_c (pe_bltn (v := .ty "tuple") (by rfl) T.n_tuple (by decide +kernel) rfl) fun _ => .ty .tuple) pda_nil))))) (pdw_or1 (pdt_cmp o_gt (PE.imp (pe_callB (o_lenb o_noN) (by rfl) T.n_len (by decide +kernel) (pa_cons (pv 1) pa_nil)) fun _ _ _ => bor1_use (nf_len nf_no1)) (pd_c (pe_glob (v := .int 10) rfl T.k_MOST_TIES.choose_spec ⟨_, rfl⟩) fun _ => .int 10) (nomark _))))) (pdss_one pds_no) pdss_nil)
  (pdss_cons (pds_set (i := 2) sc_check_ties.nd rfl (unop% fd lr) (pd_lst pda_nil) (fun _ => by decide))
  (pdss_one (pds_for pO rfl (pdi_enum (by rfl) T.n_enumerate (pda_cons (pd_var (pv 1)) pda_nil)) (pdg_tup rfl (pdgs_cons (pdg_name (pg_name (i := 3) sc_check_ties.nd rfl (unop% fd lr))) (pdgs_cons (pdg_name (pg_name (i := 4) sc_check_ties.nd rfl (unop% fd lr))) pdgs_nil))) (pdss_cons (pds_if (pdt_not (pdt_val (pd_callR (ok_is_tie T) rfl rfl (hr.mono (by decide)) rfl T.g_is_tie T.kp_is_tie T.b_is_tie passL (par_cons (pd_var (pv 0)) (par_nil (pv 2) (pda_cons (pd_var (pv 4)) pda_nil)))))) (pdss_one pds_no) pdss_nil)
  (pdss_one (pds_expr (pd_append (pv 2) (pda_cons (pd_tup (pda_cons (pd_borix hr.units1 (pv 4) pd_int (fun _ _ => rfl)) (pda_cons (pd_borix hr.units1 (pv 4) pd_int (fun _ _ => rfl)) pda_nil))) pda_nil) (fun h => pe_bm PySem.F.plainAttrs_list PySem.F.slot_list_append PySem.F.type_list_append h (pv 2) (pda_cons (pd_tup (pda_cons (pd_borix hr.units1 (pv 4) pd_int (fun _ _ => rfl)) (pda_cons (pd_borix hr.units1 (pv 4) pd_int (fun _ _ => rfl)) pda_nil))) pda_nil)))))))))))), enter_F (p := 2) rfl (by decide) (by rw [q_check_ties] at h; exact h)⟩
theorem ok_distances_of (T : Txt K mg base A x) : FnOk P w K mg base (L2.CX P w) 1 x.f_distances_of x.d_distances_of ["parts", "ties"] (spF K A F_distances_of 2) := by
  refine SL.fun_ok T.F_distances_of sc_distances_of (fun vs H Q E h => h.1) (fun cdv Ar outer s H vs Q E hr h => ?_)
  have pO : PassesOwn (model P w) (cxOf (L2.CX P w) P w K mg base nm_distances_of "distances_of" (defScope st_distances_of) x.f_distances_of cdv Ar outer s H E).A (cxOf (L2.CX P w) P w K mg base nm_distances_of "distances_of" (defScope st_distances_of) x.f_distances_of cdv Ar outer s H E).env (cxOf (L2.CX P w) P w K mg base nm_distances_of "distances_of" (defScope st_distances_of) x.f_distances_of cdv Ar outer s H E).xe := passes_of rfl
  exact ⟨liftS K A none mm_distances_of, (by unfold mm_distances_of mt_distances_of_6 mt_distances_of_5 mt_distances_of_4 mt_distances_of_3 mt_distances_of_2 mt_distances_of_1; exact ((pdss_cons (pds_setdt (by decide) (ps_setFill (i := 2) (own := [("part", 3)]) (fill_tup hr.units1) rfl sc_distances_of.nd rfl rfl (swD_true rfl rfl rfl (by decide +kernel)) (pdi_val (pd_var (pv 0))) (blkOk_by (own := [("part", 3)]) (N := nm_distances_of) (sc := defScope st_distances_of) (by decide +kernel)) (fun _ _ _ _ _ => (pdg_name (pg_name (i := 3) sc_distances_of.nd rfl (unop% fd lr)))) (fun _ _ _ _ _ => pdts_nil) (fun _ _ _ _ _ => (pd_key (pda_cons (pd_var (pv 3)) (pda_cons (pd_var (pv 3)) pda_nil)))) (fun _ _ _ _ _ => pd_int)) (fun _ => by decide))
  (pdss_cons (pds_for pO rfl (pdi_val (pd_var (pv 1))) (pdg_tup rfl (pdgs_cons (pdg_name (pg_name (i := 3) sc_distances_of.nd rfl (unop% fd lr))) (pdgs_cons (pdg_name (pg_name (i := 4) sc_distances_of.nd rfl (unop% fd lr))) (pdgs_cons (pdg_name (pg_name (i := 5) sc_distances_of.nd rfl (unop% fd lr))) pdgs_nil)))) (pdss_cons (pds_put hr.units1 (pv 2) (pd_key (pda_cons (pd_var (pv 3)) (pda_cons (pd_var (pv 4)) pda_nil))) (pd_var (pv 5)))
  (pdss_one (pds_put hr.units1 (pv 2) (pd_key (pda_cons (pd_var (pv 4)) (pda_cons (pd_var (pv 3)) pda_nil))) (pd_var (pv 5))))))
  (pdss_cons (pds_for pO rfl (pdi_val (pd_var (pv 0))) (pdg_name (pg_name (i := 6) sc_distances_of.nd rfl (unop% fd lr))) (pdss_one (pds_for pO rfl (pdi_val (pd_var (pv 0))) (pdg_name (pg_name (i := 3) sc_distances_of.nd rfl (unop% fd lr))) (pdss_one (pds_for pO rfl (pdi_val (pd_var (pv 0))) (pdg_name (pg_name (i := 4) sc_distances_of.nd rfl (unop% fd lr))) (pdss_one (pds_if (pdt_w (pdw_and (pdt_borin (u65 hr) (pd_key (pda_cons (pd_var (pv 3)) (pda_cons (pd_var (pv 6)) pda_nil))) (pv 2) (by with_unfolding_all rfl)) (pdw_and1 (pdt_borin (u65 hr) (pd_key (pda_cons (pd_var (pv 6)) (pda_cons (pd_var (pv 4)) pda_nil))) (pv 2) (by with_unfolding_all rfl))))) (pdss_cons (pds_set (i := 7) sc_distances_of.nd rfl (unop% fd lr) (pd_bin (o_add o_no) (pd_borix hr.units1 (pv 2) (pd_key (pda_cons (pd_var (pv 3)) (pda_cons (pd_var (pv 6)) pda_nil))) (fun _ _ => rfl)) (pd_borix hr.units1 (pv 2) (pd_key (pda_cons (pd_var (pv 6)) (pda_cons (pd_var (pv 4)) pda_nil))) (fun _ _ => rfl))) (fun _ => by decide))
  (pdss_one (pds_if (pdt_w (pdw_or (pdt_bornin (u65 hr) (pd_key (pda_cons (pd_var (pv 3)) (pda_cons (pd_var (pv 4)) pda_nil))) (pv 2) (by with_unfolding_all rfl)) (pdw_or1 (pdt_cmp o_lt (pd_var (pv 7)) (pd_borix hr.units1 (pv 2) (pd_key (pda_cons (pd_var (pv 3)) (pda_cons (pd_var (pv 4)) pda_nil))) (fun _ _ => rfl)) (nomark _))))) (pdss_one (pds_put hr.units1 (pv 2) (pd_key (pda_cons (pd_var (pv 3)) (pda_cons (pd_var (pv 4)) pda_nil))) (pd_var (pv 7)))) pdss_nil))) pdss_nil)))))))
  (pdss_one (pds_retV (pv 2) (by decide)))))))), enter_F (p := 2) rfl (by decide) (by rw [q_distances_of] at h; exact h)⟩
theorem ok_Puppet___init__ (T : Txt K mg base A x) : FnOk P w K mg base (L2.CX P w) 9 x.f_Puppet___init__ x.d_Puppet___init__ ["self", "parts", "ties", "hooks", "strings"] (spR K A F_Puppet___init__ 5 0) := by
  refine SL.fun_ok T.F_Puppet___init__ sc_Puppet___init__ (fun vs H Q E h => h.1) (fun cdv Ar outer s H vs Q E hr h => ?_)
  exact ⟨liftS K A (some 0) mm_Puppet___init__, (by unfold mm_Puppet___init__ mt_Puppet___init___8 mt_Puppet___init___7 mt_Puppet___init___6 mt_Puppet___init___5 mt_Puppet___init___4 mt_Puppet___init___3 mt_Puppet___init___2 mt_Puppet___init___1; exact ((pdss_cons (pds_expr (pd_call hl_check_parts (ok_check_parts T) (hr.mono (by decide)) rfl T.g_check_parts T.kp_check_parts T.b_check_parts passL (pda_cons (pd_var (pv 1)) pda_nil)))
  (pdss_cons (pds_expr (pd_call hl_check_ties (ok_check_ties T) (hr.mono (by decide)) rfl T.g_check_ties T.kp_check_ties T.b_check_ties passL (pda_cons (pd_var (pv 1)) (pda_cons (pd_var (pv 2)) pda_nil))))
  (pdss_cons (pds_expr (pd_call hl_check_hooks (ok_check_hooks T) (hr.mono (by decide)) rfl T.g_check_hooks T.kp_check_hooks T.b_check_hooks passL (pda_cons (pd_var (pv 3)) pda_nil)))
  (pdss_cons (pds_expr (pd_call hl_check_strings (ok_check_strings T) (hr.mono (by decide)) rfl T.g_check_strings T.kp_check_strings T.b_check_strings passL (pda_cons (pd_var (pv 1)) (pda_cons (pd_var (pv 3)) (pda_cons (pd_var (pv 4)) pda_nil)))))
  (pdss_cons (pds_fld T.kd T.fl_Puppet_parts T.nl_Puppet (pv 0) (pd_var (pv 1)))
  (pdss_cons (pds_fld T.kd T.fl_Puppet_ties T.nl_Puppet (pv 0) (pd_var (pv 2)))
  (pdss_cons (pds_fld T.kd T.fl_Puppet_hooks T.nl_Puppet (pv 0) (pd_var (pv 3)))
  (pdss_cons (pds_fld T.kd T.fl_Puppet_strings T.nl_Puppet (pv 0) (pd_var (pv 4)))
  (pdss_cons (pds_fld T.kd T.fl_Puppet_names T.nl_Puppet (pv 0) (pd_join (pd_str (by decide +kernel)) (pd_lc (by decide) (pe_lc (own := [("string", 5)]) rfl sc_Puppet___init__.nd (pdi_val (pd_var (pv 4))) (blkOk_by (own := [("string", 5)]) (N := nm_Puppet___init__) (sc := defScope st_Puppet___init__) (by decide +kernel)) (fun _ _ _ _ _ => (pdg_name (pg_name (i := 5) sc_Puppet___init__.nd rfl (unop% fd lr)))) (fun _ _ _ _ _ => pdts_nil) (fun _ _ _ _ _ => (pd_borix hr.units1 (pv 5) pd_int (fun _ _ => rfl))))) (fun h a b => pe_m1 PySem.F.slot_str_join PySem.F.type_str_join h a b)))
  (pdss_one (pds_fld T.kd T.fl_Puppet_ways T.nl_Puppet (pv 0) (pd_call hl_distances_of (ok_distances_of T) (hr.mono (by decide)) rfl T.g_distances_of T.kp_distances_of T.b_distances_of passL (pda_cons (pd_var (pv 1)) (pda_cons (pd_var (pv 2)) pda_nil)))))))))))))))), enter_R (p := 5) rfl (by decide) (by rw [q_Puppet___init__] at h; exact h)⟩
theorem ok_stick_man (T : Txt K mg base A x) : FnOk P w K mg base (L2.CX P w) 12 x.f_stick_man x.d_stick_man [] (spF K A F_stick_man 0) := by
  refine SL.fun_ok T.F_stick_man sc_stick_man (fun vs H Q E h => h.1) (fun cdv Ar outer s H vs Q E hr h => ?_)
  exact ⟨liftS K A none mm_stick_man, (by unfold mm_stick_man mt_stick_man_1; exact ((pdss_cons (pds_set (i := 0) sc_stick_man.nd rfl (unop% fd lr) (pd_tup (pda_cons (pd_tup (pda_cons (pd_str (by decide +kernel)) (pda_cons (pd_str (by decide +kernel)) (pda_cons pd_int pda_nil)))) (pda_cons (pd_tup (pda_cons (pd_str (by decide +kernel)) (pda_cons (pd_str (by decide +kernel)) (pda_cons pd_int pda_nil)))) pda_nil))) (fun _ => by decide))
  (pdss_cons (pds_set (i := 1) sc_stick_man.nd rfl (unop% fd lr) (pd_tup (pda_cons (pd_tup (pda_cons (pd_str (by decide +kernel)) (pda_cons (pd_str (by decide +kernel)) (pda_cons (pd_str (by decide +kernel)) pda_nil)))) (pda_cons (pd_tup (pda_cons (pd_str (by decide +kernel)) (pda_cons (pd_str (by decide +kernel)) (pda_cons (pd_str (by decide +kernel)) pda_nil)))) (pda_cons (pd_tup (pda_cons (pd_str (by decide +kernel)) (pda_cons (pd_str (by decide +kernel)) (pda_cons (pd_str (by decide +kernel)) pda_nil)))) pda_nil)))) (fun _ => by decide))
  (pdss_one (pds_ret (pd_make T.in_Puppet hi_Puppet___init__ (fun _ => .nil) T.mk_Puppet (ok_Puppet___init__ T) (hr.mono (by decide)) rfl T.g_Puppet T.b_Puppet___init__ .nil passL (pda_cons (pd_tup (pda_cons (pd_str (by decide +kernel)) (pda_cons (pd_str (by decide +kernel)) (pda_cons (pd_str (by decide +kernel)) pda_nil)))) (pda_cons (pd_var (pv 0)) (pda_cons (pd_str (by decide +kernel)) (pda_cons (pd_var (pv 1)) pda_nil))))))))))), enter_F (p := 0) rfl (by decide) (by rw [q_stick_man] at h; exact h)⟩
theorem ok_two_lines (T : Txt K mg base A x) : FnOk P w K mg base (L2.CX P w) 12 x.f_two_lines x.d_two_lines [] (spF K A F_two_lines 0) := by
  refine SL.fun_ok T.F_two_lines sc_two_lines (fun vs H Q E h => h.1) (fun cdv Ar outer s H vs Q E hr h => ?_)
  exact ⟨liftS K A none mm_two_lines, (by unfold mm_two_lines; exact ((pdss_one (pds_ret (pd_make T.in_Puppet hi_Puppet___init__ (fun _ => .nil) T.mk_Puppet (ok_Puppet___init__ T) (hr.mono (by decide)) rfl T.g_Puppet T.b_Puppet___init__ .nil passL (pda_cons (pd_tup (pda_cons (pd_str (by decide +kernel)) pda_nil)) (pda_cons (pd_tup pda_nil) (pda_cons (pd_str (by decide +kernel)) (pda_cons (pd_tup (pda_cons (pd_tup (pda_cons (pd_str (by decide +kernel)) (pda_cons (pd_str (by decide +kernel)) (pda_cons (pd_str (by decide +kernel)) pda_nil)))) (pda_cons (pd_tup (pda_cons (pd_str (by decide +kernel)) (pda_cons (pd_str (by decide +kernel)) (pda_cons (pd_str (by decide +kernel)) pda_nil)))) pda_nil))) pda_nil))))))))), enter_F (p := 0) rfl (by decide) (by rw [q_two_lines] at h; exact h)⟩
theorem ok_law (T : Txt K mg base A x) : FnOk P w K mg base (L2.CX P w) 14 x.f_law x.d_law ["_law_cells"] (sp_law K) := by
  refine SL.fun_ok T.F_law sc_law (fun vs H Q E h => by obtain ⟨_, _, rfl, _⟩ := h; rfl) (fun cdv Ar outer s H vs Q E hr h => ?_)
  exact ⟨liftS K A none mm_law, (by unfold mm_law mt_law_7 mt_law_6 mt_law_5 mt_law_4 mt_law_3 mt_law_2 mt_law_1; exact ((pdss_cons (pds_set (i := 1) sc_law.nd rfl (unop% fd lr) (pd_lst (pda_cons (pd_c (pe_glob (v := .int 6) rfl T.k_MOST_PARTS.choose_spec ⟨_, rfl⟩) fun _ => .int 6) (pda_cons (pd_c (pe_glob (v := .int 10) rfl T.k_MOST_TIES.choose_spec ⟨_, rfl⟩) fun _ => .int 10) (pda_cons (pd_c (pe_glob (v := .int 4) rfl T.k_MOST_HOOKS.choose_spec ⟨_, rfl⟩) fun _ => .int 4) (pda_cons (pd_c (pe_glob (v := .int 6) rfl T.k_MOST_STRINGS.choose_spec ⟨_, rfl⟩) fun _ => .int 6) (pda_cons (pd_c (pe_glob (v := .int 6) rfl T.k_MOST_MOVES.choose_spec ⟨_, rfl⟩) fun _ => .int 6) (pda_cons (pd_c (pe_glob (v := .int 3) rfl T.k_MOST_HAULS.choose_spec ⟨_, rfl⟩) fun _ => .int 3) (pda_cons (pd_c (pe_glob (v := .int 8) rfl T.k_MOST_FACTS.choose_spec ⟨_, rfl⟩) fun _ => .int 8) (pda_cons (pd_c (pe_glob (v := .int 1000000) rfl T.k_MOST_AMOUNT.choose_spec ⟨_, rfl⟩) fun _ => .int 1000000) pda_nil))))))))) (fun _ => by decide))
  (pdss_cons (pds_set (i := 1) sc_law.nd rfl (unop% fd lr) (pd_bin (o_add o_no) (pd_var (pv 1)) (pd_lst (pda_cons (pd_c (pe_glob (v := .int 6) rfl T.k_MOST_WISHES.choose_spec ⟨_, rfl⟩) fun _ => .int 6) (pda_cons (pd_c (pe_glob (v := .int 4) rfl T.k_MOST_DEPTH.choose_spec ⟨_, rfl⟩) fun _ => .int 4) (pda_cons (pd_c (pe_glob (v := .int 8) rfl T.k_MOST_OVERS.choose_spec ⟨_, rfl⟩) fun _ => .int 8) (pda_cons (pd_c (pe_glob (v := .int 6) rfl T.k_MOST_SIGHTS.choose_spec ⟨_, rfl⟩) fun _ => .int 6) (pda_cons (pd_c (pe_glob (v := .int 4) rfl T.k_MOST_GUARDS.choose_spec ⟨_, rfl⟩) fun _ => .int 4) pda_nil))))))) (fun _ => by decide))
  (pdss_cons (pds_if (pdt_cmp (o_ne hr.units (neOf_sel (o_neC T.kd T.in_Puppet T.o_Puppet_eq T.ne_Puppet T.ob_Puppet (ok_Puppet___eq__ T) (hr.mono (by decide)) T.b_Puppet___eq__ passL) o_noNe)) (pd_callB (o_reprA hr.g (u65 hr)) (by rfl) T.n_repr (by decide +kernel) (pda_cons (pd_var (pv 1)) pda_nil)) (pd_callB (o_reprA hr.g (u65 hr)) (by rfl) T.n_repr (by decide +kernel) (pda_cons (pd_lst (pda_cons pd_int (pda_cons pd_int (pda_cons pd_int (pda_cons pd_int (pda_cons pd_int (pda_cons pd_int (pda_cons pd_int (pda_cons (pd_bin o_pow pd_int pd_int) (pda_cons pd_int (pda_cons pd_int (pda_cons pd_int (pda_cons pd_int (pda_cons pd_int pda_nil)))))))))))))) pda_nil)) (nomark _)) (pdss_one (pds_ret pd_bl)) pdss_nil)
  (pdss_cons (pds_par (i := 2) (k := 3) rfl sc_law.nd rfl rfl (by decide) rfl rfl (pd_call0 hl_stick_man (ok_stick_man T) (hr.mono (by decide)) rfl T.g_stick_man T.kp_stick_man T.b_stick_man passL) (pd_call0 hl_two_lines (ok_two_lines T) (hr.mono (by decide)) rfl T.g_two_lines T.kp_two_lines T.b_two_lines passL) (fun _ => by decide) (by rfl))
  (pdss_cons (pds_if (pdt_cmp (o_ne hr.units (neOf_sel (o_neC T.kd T.in_Puppet T.o_Puppet_eq T.ne_Puppet T.ob_Puppet (ok_Puppet___eq__ T) (hr.mono (by decide)) T.b_Puppet___eq__ passL) o_noNe)) (pd_lst (pda_cons (pd_fld T.kd T.fl_Puppet_parts (pd_var (pv 2))) (pda_cons (pd_fld T.kd T.fl_Puppet_ties (pd_var (pv 2))) pda_nil))) (pd_lst (pda_cons (pd_tup (pda_cons (pd_str (by decide +kernel)) (pda_cons (pd_str (by decide +kernel)) (pda_cons (pd_str (by decide +kernel)) pda_nil)))) (pda_cons (pd_tup (pda_cons (pd_tup (pda_cons (pd_str (by decide +kernel)) (pda_cons (pd_str (by decide +kernel)) (pda_cons pd_int pda_nil)))) (pda_cons (pd_tup (pda_cons (pd_str (by decide +kernel)) (pda_cons (pd_str (by decide +kernel)) (pda_cons pd_int pda_nil)))) pda_nil))) pda_nil))) (nomark _)) (pdss_one (pds_ret pd_bl)) pdss_nil)
  (pdss_cons (pds_if (pdt_cmp (o_ne hr.units (neOf_sel (o_neC T.kd T.in_Puppet T.o_Puppet_eq T.ne_Puppet T.ob_Puppet (ok_Puppet___eq__ T) (hr.mono (by decide)) T.b_Puppet___eq__ passL) o_noNe)) (pd_lst (pda_cons (pd_fld T.kd T.fl_Puppet_hooks (pd_var (pv 2))) (pda_cons (pd_fld T.kd T.fl_Puppet_strings (pd_var (pv 2))) pda_nil))) (pd_lst (pda_cons (pd_str (by decide +kernel)) (pda_cons (pd_tup (pda_cons (pd_tup (pda_cons (pd_str (by decide +kernel)) (pda_cons (pd_str (by decide +kernel)) (pda_cons (pd_str (by decide +kernel)) pda_nil)))) (pda_cons (pd_tup (pda_cons (pd_str (by decide +kernel)) (pda_cons (pd_str (by decide +kernel)) (pda_cons (pd_str (by decide +kernel)) pda_nil)))) (pda_cons (pd_tup (pda_cons (pd_str (by decide +kernel)) (pda_cons (pd_str (by decide +kernel)) (pda_cons (pd_str (by decide +kernel)) pda_nil)))) pda_nil)))) pda_nil))) (nomark _)) (pdss_one (pds_ret pd_bl)) pdss_nil)
  (pdss_cons (pds_set (i := 4) sc_law.nd rfl (unop% fd lr) (pd_lst (pda_cons (pd_fld T.kd T.fl_Puppet_parts (pd_var (pv 3))) (pda_cons (pd_fld T.kd T.fl_Puppet_ties (pd_var (pv 3))) (pda_cons (pd_fld T.kd T.fl_Puppet_hooks (pd_var (pv 3))) (pda_cons (pd_fld T.kd T.fl_Puppet_strings (pd_var (pv 3))) pda_nil))))) (fun _ => by decide))
  (pdss_cons (pds_if (pdt_w (pdw_or (pdt_cmp (o_ne hr.units (neOf_sel (o_neC T.kd T.in_Puppet T.o_Puppet_eq T.ne_Puppet T.ob_Puppet (ok_Puppet___eq__ T) (hr.mono (by decide)) T.b_Puppet___eq__ passL) o_noNe)) (pd_var (pv 4)) (pd_lst (pda_cons (pd_tup (pda_cons (pd_str (by decide +kernel)) pda_nil)) (pda_cons (pd_tup pda_nil) (pda_cons (pd_str (by decide +kernel)) (pda_cons (pd_tup (pda_cons (pd_tup (pda_cons (pd_str (by decide +kernel)) (pda_cons (pd_str (by decide +kernel)) (pda_cons (pd_str (by decide +kernel)) pda_nil)))) (pda_cons (pd_tup (pda_cons (pd_str (by decide +kernel)) (pda_cons (pd_str (by decide +kernel)) (pda_cons (pd_str (by decide +kernel)) pda_nil)))) pda_nil))) pda_nil))))) (nomark _)) (pdw_or1 (pdt_cmp (o_ne hr.units (neOf_sel (o_neC T.kd T.in_Puppet T.o_Puppet_eq T.ne_Puppet T.ob_Puppet (ok_Puppet___eq__ T) (hr.mono (by decide)) T.b_Puppet___eq__ passL) o_noNe)) (pd_call0 hl_stick_man (ok_stick_man T) (hr.mono (by decide)) rfl T.g_stick_man T.kp_stick_man T.b_stick_man passL) (pd_var (pv 2)) (nomark _))))) (pdss_one (pds_ret pd_bl)) pdss_nil)
  (pdss_one (pds_ret (pd_callB (o_all rfl) (by rfl) T.n_all (by decide +kernel) (pda_cons (pd_lc (by decide) (pe_lc (own := [("_law_k", 5)]) rfl sc_law.nd (pdi_range1 (by rfl) T.n_range (pda_cons (pd_callB (o_max rfl) (by rfl) T.n_max (by decide +kernel) (pda_cons pd_int (pda_cons (pd_callB (o_min rfl) (by rfl) T.n_min (by decide +kernel) (pda_cons (PE.imp (pe_callB (o_lenb o_noN) (by rfl) T.n_len (by decide +kernel) (pa_cons (pv 0) pa_nil)) fun _ _ _ => bor1_use (nf_len nf_no1)) (pda_cons pd_int pda_nil))) pda_nil))) pda_nil)) (blkOk_by (own := [("_law_k", 5)]) (N := nm_law) (sc := defScope st_law) (by decide +kernel)) (fun _ _ _ _ _ => (pdg_name (pg_name (i := 5) sc_law.nd rfl (unop% fd lr)))) (fun _ _ _ _ _ => pdts_nil) (fun _ _ _ _ _ => (pd_callT (ok__law_right T) rfl rfl (hr.mono (by decide)) rfl T.g__law_right T.kp__law_right T.b__law_right passL (pat_nil (pd_call hl__law_bag (ok__law_bag T) (hr.mono (by decide)) rfl T.g__law_bag T.kp__law_bag T.b__law_bag passL (pda_cons (pd_var (pv 0)) (pda_cons (pd_var (pv 5)) pda_nil)))))))) pda_nil)))))))))))))), enter_F (p := 1) rfl (by decide) (by have h := sp_of (A := A) T.b0 law_true h; rw [q_law] at h; exact h)⟩
end
end Tbs
theorem okLaw : OkLaw := fun _ _ _ _ _ _ _ T => ok_law T
end DY
/- these names are taken so that the head lays no copies of its heaps and trees, which nothing needs -/
theorem PySem.W.Fast.tw5043313069665065092 : True := trivial
theorem PySem.W.Fast.tw3084371345336148450 : True := trivial
open PySem PySem.W PyProof.Rows
set_option maxRecDepth 100000 in
set_option maxHeartbeats 0 in
theorem PySem.Challenge.cw_slackstrings_k22_errors_limits_and_sampl_holds : PySem.Challenge.rw_slackstrings_k22_errors_limits_and_sampl.Holds := by
  w_on; o_law; o_head (kHook topK.K [3, 30, 31, 47, 48, 50, 51, 66, 67, 69, 70, 85, 86, 88, 89, 104, 105, 107, 108, 123, 124, 126, 127, 142, 143, 145, 146, 161, 162, 164, 165, 180, 181, 183, 184, 199, 200, 202, 203, 218, 219, 221, 222, 237, 238, 240, 241, 256, 257, 259, 260, 275, 276, 278, 279, 294, 295, 297, 298, 313, 314, 316, 317, 332, 333, 335, 336, 351, 352, 354, 355, 370, 371, 373, 374, 389, 390, 392, 393, 408, 409, 411, 412, 427, 428, 430, 431, 446, 447, 449, 450, 465, 466, 468, 469, 480, 481, 497, 498, 500, 501, 516, 517, 519, 520, 535, 536, 538, 539, 554, 555, 557, 558, 573, 574, 576, 577, 592, 593, 595, 596, 611, 612, 614, 615, 626, 627, 638, 639, 650, 651, 666, 667, 669, 670, 681, 682, 698, 699, 701, 702, 710, 711, 712, 718, 719, 723, 724, 728, 729, 733, 734, 906, 907, 913, 914, 920, 921, 927, 928, 934, 935, 941, 942, 946, 947, 972, 973, 1012, 1013, 1015, 1016, 1031, 1032, 1038, 1039, 1045, 1046, 1052, 1053, 1059, 1060, 1066, 1067, 1073, 1074, 1080, 1081, 1087, 1088, 1092, 1093, 1099, 1100, 1104, 1105, 1] (fun _ => by kernel_rfl)); (case hw => w_witness2)
  k_fill
  refine DY.walk (l := PySem.Challenge.rw_slackstrings_k22_errors_limits_and_sampl) rfl rfl (fun w h Y => by first | exact PySem.W.kIn_of Y | exact PySem.W.km_in_of Y) ?F
  case F =>
    intro w mg fa h KX G hmg tab
    refine' DY.all_mk DY.okLaw KX G hmg tab ?aC_Puppet ?a_Puppet___eq__ ?i_Puppet___eq__ ?E_Puppet___eq__ ?a__law_bag ?E__law_bag ?a__law_indexes ?E__law_indexes ?a__law_classes ?E__law_classes ?a__law_is ?E__law_is ?a__law_draw ?E__law_draw ?a__law_one ?E__law_one ?a__law_others_right ?E__law_others_right ?a__law_values ?E__law_values ?a__law_right ?E__law_right ?a_are_great ?E_are_great ?a_in_order ?E_in_order ?a_check_hooks ?E_check_hooks ?a_are_small ?E_are_small ?a_check_parts ?E_check_parts ?a_is_string ?E_is_string ?a_check_strings ?E_check_strings ?a_is_integer ?E_is_integer ?a_is_number ?l_is_number ?c_is_number ?k_is_number ?t_is_number ?u_is_number ?a_is_tie ?E_is_tie ?a_check_ties ?E_check_ties ?a_distances_of ?E_distances_of ?a_Puppet___init__ ?i_Puppet___init__ ?E_Puppet___init__ ?a_stick_man ?E_stick_man ?a_two_lines ?E_two_lines ?a_law ?l_law ?c_law ?k_law ?aC_ShapeError ?aC_InvalidNumber ?aC_InvalidText ?aC_InvalidForm ?aC_InvalidName ?aC_InvalidFacts ?aC_InvalidParts ?aC_InvalidTies ?aC_InvalidHooks ?aC_InvalidStrings ?aC_InvalidHeights ?aC_InvalidLengths ?aC_InvalidMoves ?aC_InvalidMoment ?aC_InvalidLevel ?aC_InvalidWish ?aC_InvalidSights ?aC_InvalidGuards ?aC_InvalidLine ?aC_NotFacts ?aC_NotAPuppet ?aC_NotAScript ?aC_NotARun ?aC_NotAWish ?aC_QuestionError ?aC_UnknownPart ?aC_UnknownHook ?aC_UnknownName ?aC_NoWay ?aC_OtherNames ?aC_OtherParts ?aC_Contradictory ?aC_Never ?aC_Busy ?aC_NothingToUndo ?aC_Refused ?aC_SizeError ?aC_TooMany ?E_InvalidNumber ?xk_InvalidNumber ?E_InvalidText ?xk_InvalidText ?E_InvalidForm ?xk_InvalidForm ?E_InvalidName ?xk_InvalidName ?E_InvalidFacts ?xk_InvalidFacts ?E_InvalidParts ?xk_InvalidParts ?E_InvalidTies ?xk_InvalidTies ?E_InvalidHooks ?xk_InvalidHooks ?E_InvalidStrings ?xk_InvalidStrings ?E_InvalidHeights ?xk_InvalidHeights ?E_InvalidLengths ?xk_InvalidLengths ?E_InvalidMoves ?xk_InvalidMoves ?E_InvalidMoment ?xk_InvalidMoment ?E_InvalidLevel ?xk_InvalidLevel ?E_InvalidWish ?xk_InvalidWish ?E_InvalidSights ?xk_InvalidSights ?E_InvalidGuards ?xk_InvalidGuards ?E_InvalidLine ?xk_InvalidLine ?E_NotFacts ?xk_NotFacts ?E_NotAPuppet ?xk_NotAPuppet ?E_NotAScript ?xk_NotAScript ?E_NotARun ?xk_NotARun ?E_NotAWish ?xk_NotAWish ?E_UnknownPart ?xk_UnknownPart ?E_UnknownHook ?xk_UnknownHook ?E_UnknownName ?xk_UnknownName ?E_NoWay ?xk_NoWay ?E_OtherNames ?xk_OtherNames ?E_OtherParts ?xk_OtherParts ?E_Contradictory ?xk_Contradictory ?E_Never ?xk_Never ?E_Busy ?xk_Busy ?E_NothingToUndo ?xk_NothingToUndo ?E_Refused ?xk_Refused ?E_TooMany ?xk_TooMany ?XS_l ?XS_c ?XB_a ?XB_k ?XB_given ?XB_index ?XB_limit ?XB_move ?XB_shown ?XB_value ?XB_weights ?z_ArithmeticError ?z_LookupError ?z_ValueError ?z_abs ?z_all ?z_bool ?z_enumerate ?z_int ?z_isinstance ?z_len ?z_max ?z_min ?z_range ?z_repr ?z_str ?z_tuple ?kc_MOST_AMOUNT ?kc_MOST_DEPTH ?kc_MOST_FACTS ?kc_MOST_GUARDS ?kc_MOST_HAULS ?kc_MOST_HOOKS ?kc_MOST_MOVES ?kc_MOST_OVERS ?kc_MOST_PARTS ?kc_MOST_SIGHTS ?kc_MOST_STRINGS ?kc_MOST_TIES ?kc_MOST_WISHES ?pg_Puppet ?hd_Puppet ?po_Puppet ?sa_Puppet ?mk_Puppet ?kc_Puppet ?sf_Puppet ?si_Puppet ?sj_Puppet ?ha_Puppet ?hm_Puppet ?kb_Puppet_int ?kb_Puppet_bool ?kb_Puppet_str ?kb_Puppet_tuple ?kb_Puppet_list ?kb_Puppet_dict ?kt_Puppet_NoneType ?nf_Puppet_NoneType ?kt_Puppet_bool ?nf_Puppet_bool ?kt_Puppet_int ?nf_Puppet_int ?kt_Puppet_str ?nf_Puppet_str ?kt_Puppet_list ?nf_Puppet_list ?kt_Puppet_tuple ?nf_Puppet_tuple ?kt_Puppet_dict ?nf_Puppet_dict ?nn_Puppet_Puppet ?hn ?ht ?na_Puppet_hooks ?na_Puppet_names ?na_Puppet_parts ?na_Puppet_strings ?na_Puppet_ties ?na_Puppet_ways ?ne_Puppet ?ob_Puppet
    (case aC_Puppet => k_is); (case a_Puppet___eq__ => k_is); (case i_Puppet___eq__ => as_aux_lemma => k_is); (case E_Puppet___eq__ => as_aux_lemma => (refine' ⟨_, L2.fun_mk ?zl ?zc ?zk⟩; (case zl => k_is); (case zc => k_is); (case zk => k_is))); (case a__law_bag => k_is); (case E__law_bag => as_aux_lemma => (refine' ⟨_, L2.fun_mk ?zl ?zc ?zk⟩; (case zl => k_is); (case zc => k_is); (case zk => k_is))); (case a__law_indexes => k_is); (case E__law_indexes => as_aux_lemma => (refine' ⟨_, L2.fun_mk ?zl ?zc ?zk⟩; (case zl => k_is); (case zc => k_is); (case zk => k_is)))
    (case a__law_classes => k_is); (case E__law_classes => as_aux_lemma => (refine' ⟨_, L2.fun_mk ?zl ?zc ?zk⟩; (case zl => k_is); (case zc => k_is); (case zk => k_is))); (case a__law_is => k_is); (case E__law_is => as_aux_lemma => (refine' ⟨_, L2.fun_mk ?zl ?zc ?zk⟩; (case zl => k_is); (case zc => k_is); (case zk => k_is))); (case a__law_draw => k_is); (case E__law_draw => as_aux_lemma => (refine' ⟨_, L2.fun_mk ?zl ?zc ?zk⟩; (case zl => k_is); (case zc => k_is); (case zk => k_is))); (case a__law_one => k_is); (case E__law_one => as_aux_lemma => (refine' ⟨_, L2.fun_mk ?zl ?zc ?zk⟩; (case zl => k_is); (case zc => k_is); (case zk => k_is)))
    (case a__law_others_right => k_is); (case E__law_others_right => as_aux_lemma => (refine' ⟨_, L2.fun_mk ?zl ?zc ?zk⟩; (case zl => k_is); (case zc => k_is); (case zk => k_is))); (case a__law_values => k_is); (case E__law_values => as_aux_lemma => (refine' ⟨_, L2.fun_mk ?zl ?zc ?zk⟩; (case zl => k_is); (case zc => k_is); (case zk => k_is))); (case a__law_right => k_is); (case E__law_right => as_aux_lemma => (refine' ⟨_, L2.fun_mk ?zl ?zc ?zk⟩; (case zl => k_is); (case zc => k_is); (case zk => k_is))); (case a_are_great => k_is); (case E_are_great => as_aux_lemma => (refine' ⟨_, L2.fun_mk ?zl ?zc ?zk⟩; (case zl => k_is); (case zc => k_is); (case zk => k_is)))
    (case a_in_order => k_is); (case E_in_order => as_aux_lemma => (refine' ⟨_, L2.fun_mk ?zl ?zc ?zk⟩; (case zl => k_is); (case zc => k_is); (case zk => k_is))); (case a_check_hooks => k_is); (case E_check_hooks => as_aux_lemma => (refine' ⟨_, L2.fun_mk ?zl ?zc ?zk⟩; (case zl => k_is); (case zc => k_is); (case zk => k_is))); (case a_are_small => k_is); (case E_are_small => as_aux_lemma => (refine' ⟨_, L2.fun_mk ?zl ?zc ?zk⟩; (case zl => k_is); (case zc => k_is); (case zk => k_is))); (case a_check_parts => k_is); (case E_check_parts => as_aux_lemma => (refine' ⟨_, L2.fun_mk ?zl ?zc ?zk⟩; (case zl => k_is); (case zc => k_is); (case zk => k_is)))
    (case a_is_string => k_is); (case E_is_string => as_aux_lemma => (refine' ⟨_, L2.fun_mk ?zl ?zc ?zk⟩; (case zl => k_is); (case zc => k_is); (case zk => k_is))); (case a_check_strings => k_is); (case E_check_strings => as_aux_lemma => (refine' ⟨_, L2.fun_mk ?zl ?zc ?zk⟩; (case zl => k_is); (case zc => k_is); (case zk => k_is))); (case a_is_integer => k_is); (case E_is_integer => as_aux_lemma => (refine' ⟨_, L2.fun_mk ?zl ?zc ?zk⟩; (case zl => k_is); (case zc => k_is); (case zk => k_is))); (case a_is_number => k_is); (case l_is_number => k_is)
    (case c_is_number => k_is); (case k_is_number => as_aux_lemma => k_is); (case t_is_number => k_is); (case u_is_number => exact (.cons rfl .nil)); (case a_is_tie => k_is); (case E_is_tie => as_aux_lemma => (refine' ⟨_, L2.fun_mk ?zl ?zc ?zk⟩; (case zl => k_is); (case zc => k_is); (case zk => k_is))); (case a_check_ties => k_is); (case E_check_ties => as_aux_lemma => (refine' ⟨_, L2.fun_mk ?zl ?zc ?zk⟩; (case zl => k_is); (case zc => k_is); (case zk => k_is)))
    (case a_distances_of => k_is); (case E_distances_of => as_aux_lemma => (refine' ⟨_, L2.fun_mk ?zl ?zc ?zk⟩; (case zl => k_is); (case zc => k_is); (case zk => k_is))); (case a_Puppet___init__ => k_is); (case i_Puppet___init__ => as_aux_lemma => k_is); (case E_Puppet___init__ => as_aux_lemma => (refine' ⟨_, L2.fun_mk ?zl ?zc ?zk⟩; (case zl => k_is); (case zc => k_is); (case zk => k_is))); (case a_stick_man => k_is); (case E_stick_man => as_aux_lemma => (refine' ⟨_, L2.fun_mk ?zl ?zc ?zk⟩; (case zl => k_is); (case zc => k_is); (case zk => k_is))); (case a_two_lines => k_is)
    (case E_two_lines => as_aux_lemma => (refine' ⟨_, L2.fun_mk ?zl ?zc ?zk⟩; (case zl => k_is); (case zc => k_is); (case zk => k_is))); (case a_law => k_is); (case l_law => k_is); (case c_law => k_is); (case k_law => as_aux_lemma => k_is); (case aC_ShapeError => k_is); (case aC_InvalidNumber => k_is); (case aC_InvalidText => k_is)
    (case aC_InvalidForm => k_is); (case aC_InvalidName => k_is); (case aC_InvalidFacts => k_is); (case aC_InvalidParts => k_is); (case aC_InvalidTies => k_is); (case aC_InvalidHooks => k_is); (case aC_InvalidStrings => k_is); (case aC_InvalidHeights => k_is)
    (case aC_InvalidLengths => k_is); (case aC_InvalidMoves => k_is); (case aC_InvalidMoment => k_is); (case aC_InvalidLevel => k_is); (case aC_InvalidWish => k_is); (case aC_InvalidSights => k_is); (case aC_InvalidGuards => k_is); (case aC_InvalidLine => k_is)
    (case aC_NotFacts => k_is); (case aC_NotAPuppet => k_is); (case aC_NotAScript => k_is); (case aC_NotARun => k_is); (case aC_NotAWish => k_is); (case aC_QuestionError => k_is); (case aC_UnknownPart => k_is); (case aC_UnknownHook => k_is)
    (case aC_UnknownName => k_is); (case aC_NoWay => k_is); (case aC_OtherNames => k_is); (case aC_OtherParts => k_is); (case aC_Contradictory => k_is); (case aC_Never => k_is); (case aC_Busy => k_is); (case aC_NothingToUndo => k_is)
    (case aC_Refused => k_is); (case aC_SizeError => k_is); (case aC_TooMany => k_is); (case E_InvalidNumber => as_aux_lemma => (refine' SL.xc_mk PySem.F.excBase_ValueError PySem.F.store_ValueError ?z1 ?z2 ?z3 ?z4 ?z5 ?z6 ?z7 ?z8 ?z9 ?za ?zb ?zc; (case z1 => kx_is); (case z2 => kx_is); (case z3 => k_is); (case z4 => k_is); (case z5 => k_is); (case z6 => k_is); (case z7 => k_is); (case z8 => k_is); (case z9 => k_is); (case za => k_is); (case zb => k_is); (case zc => k_is))); (case xk_InvalidNumber => as_aux_lemma => k_is); (case E_InvalidText => as_aux_lemma => (refine' SL.xc_mk PySem.F.excBase_ValueError PySem.F.store_ValueError ?z1 ?z2 ?z3 ?z4 ?z5 ?z6 ?z7 ?z8 ?z9 ?za ?zb ?zc; (case z1 => kx_is); (case z2 => kx_is); (case z3 => k_is); (case z4 => k_is); (case z5 => k_is); (case z6 => k_is); (case z7 => k_is); (case z8 => k_is); (case z9 => k_is); (case za => k_is); (case zb => k_is); (case zc => k_is))); (case xk_InvalidText => as_aux_lemma => k_is); (case E_InvalidForm => as_aux_lemma => (refine' SL.xc_mk PySem.F.excBase_ValueError PySem.F.store_ValueError ?z1 ?z2 ?z3 ?z4 ?z5 ?z6 ?z7 ?z8 ?z9 ?za ?zb ?zc; (case z1 => kx_is); (case z2 => kx_is); (case z3 => k_is); (case z4 => k_is); (case z5 => k_is); (case z6 => k_is); (case z7 => k_is); (case z8 => k_is); (case z9 => k_is); (case za => k_is); (case zb => k_is); (case zc => k_is)))
    (case xk_InvalidForm => as_aux_lemma => k_is); (case E_InvalidName => as_aux_lemma => (refine' SL.xc_mk PySem.F.excBase_ValueError PySem.F.store_ValueError ?z1 ?z2 ?z3 ?z4 ?z5 ?z6 ?z7 ?z8 ?z9 ?za ?zb ?zc; (case z1 => kx_is); (case z2 => kx_is); (case z3 => k_is); (case z4 => k_is); (case z5 => k_is); (case z6 => k_is); (case z7 => k_is); (case z8 => k_is); (case z9 => k_is); (case za => k_is); (case zb => k_is); (case zc => k_is))); (case xk_InvalidName => as_aux_lemma => k_is); (case E_InvalidFacts => as_aux_lemma => (refine' SL.xc_mk PySem.F.excBase_ValueError PySem.F.store_ValueError ?z1 ?z2 ?z3 ?z4 ?z5 ?z6 ?z7 ?z8 ?z9 ?za ?zb ?zc; (case z1 => kx_is); (case z2 => kx_is); (case z3 => k_is); (case z4 => k_is); (case z5 => k_is); (case z6 => k_is); (case z7 => k_is); (case z8 => k_is); (case z9 => k_is); (case za => k_is); (case zb => k_is); (case zc => k_is))); (case xk_InvalidFacts => as_aux_lemma => k_is); (case E_InvalidParts => as_aux_lemma => (refine' SL.xc_mk PySem.F.excBase_ValueError PySem.F.store_ValueError ?z1 ?z2 ?z3 ?z4 ?z5 ?z6 ?z7 ?z8 ?z9 ?za ?zb ?zc; (case z1 => kx_is); (case z2 => kx_is); (case z3 => k_is); (case z4 => k_is); (case z5 => k_is); (case z6 => k_is); (case z7 => k_is); (case z8 => k_is); (case z9 => k_is); (case za => k_is); (case zb => k_is); (case zc => k_is))); (case xk_InvalidParts => as_aux_lemma => k_is); (case E_InvalidTies => as_aux_lemma => (refine' SL.xc_mk PySem.F.excBase_ValueError PySem.F.store_ValueError ?z1 ?z2 ?z3 ?z4 ?z5 ?z6 ?z7 ?z8 ?z9 ?za ?zb ?zc; (case z1 => kx_is); (case z2 => kx_is); (case z3 => k_is); (case z4 => k_is); (case z5 => k_is); (case z6 => k_is); (case z7 => k_is); (case z8 => k_is); (case z9 => k_is); (case za => k_is); (case zb => k_is); (case zc => k_is)))
    (case xk_InvalidTies => as_aux_lemma => k_is); (case E_InvalidHooks => as_aux_lemma => (refine' SL.xc_mk PySem.F.excBase_ValueError PySem.F.store_ValueError ?z1 ?z2 ?z3 ?z4 ?z5 ?z6 ?z7 ?z8 ?z9 ?za ?zb ?zc; (case z1 => kx_is); (case z2 => kx_is); (case z3 => k_is); (case z4 => k_is); (case z5 => k_is); (case z6 => k_is); (case z7 => k_is); (case z8 => k_is); (case z9 => k_is); (case za => k_is); (case zb => k_is); (case zc => k_is))); (case xk_InvalidHooks => as_aux_lemma => k_is); (case E_InvalidStrings => as_aux_lemma => (refine' SL.xc_mk PySem.F.excBase_ValueError PySem.F.store_ValueError ?z1 ?z2 ?z3 ?z4 ?z5 ?z6 ?z7 ?z8 ?z9 ?za ?zb ?zc; (case z1 => kx_is); (case z2 => kx_is); (case z3 => k_is); (case z4 => k_is); (case z5 => k_is); (case z6 => k_is); (case z7 => k_is); (case z8 => k_is); (case z9 => k_is); (case za => k_is); (case zb => k_is); (case zc => k_is))); (case xk_InvalidStrings => as_aux_lemma => k_is); (case E_InvalidHeights => as_aux_lemma => (refine' SL.xc_mk PySem.F.excBase_ValueError PySem.F.store_ValueError ?z1 ?z2 ?z3 ?z4 ?z5 ?z6 ?z7 ?z8 ?z9 ?za ?zb ?zc; (case z1 => kx_is); (case z2 => kx_is); (case z3 => k_is); (case z4 => k_is); (case z5 => k_is); (case z6 => k_is); (case z7 => k_is); (case z8 => k_is); (case z9 => k_is); (case za => k_is); (case zb => k_is); (case zc => k_is))); (case xk_InvalidHeights => as_aux_lemma => k_is); (case E_InvalidLengths => as_aux_lemma => (refine' SL.xc_mk PySem.F.excBase_ValueError PySem.F.store_ValueError ?z1 ?z2 ?z3 ?z4 ?z5 ?z6 ?z7 ?z8 ?z9 ?za ?zb ?zc; (case z1 => kx_is); (case z2 => kx_is); (case z3 => k_is); (case z4 => k_is); (case z5 => k_is); (case z6 => k_is); (case z7 => k_is); (case z8 => k_is); (case z9 => k_is); (case za => k_is); (case zb => k_is); (case zc => k_is)))
    (case xk_InvalidLengths => as_aux_lemma => k_is); (case E_InvalidMoves => as_aux_lemma => (refine' SL.xc_mk PySem.F.excBase_ValueError PySem.F.store_ValueError ?z1 ?z2 ?z3 ?z4 ?z5 ?z6 ?z7 ?z8 ?z9 ?za ?zb ?zc; (case z1 => kx_is); (case z2 => kx_is); (case z3 => k_is); (case z4 => k_is); (case z5 => k_is); (case z6 => k_is); (case z7 => k_is); (case z8 => k_is); (case z9 => k_is); (case za => k_is); (case zb => k_is); (case zc => k_is))); (case xk_InvalidMoves => as_aux_lemma => k_is); (case E_InvalidMoment => as_aux_lemma => (refine' SL.xc_mk PySem.F.excBase_ValueError PySem.F.store_ValueError ?z1 ?z2 ?z3 ?z4 ?z5 ?z6 ?z7 ?z8 ?z9 ?za ?zb ?zc; (case z1 => kx_is); (case z2 => kx_is); (case z3 => k_is); (case z4 => k_is); (case z5 => k_is); (case z6 => k_is); (case z7 => k_is); (case z8 => k_is); (case z9 => k_is); (case za => k_is); (case zb => k_is); (case zc => k_is))); (case xk_InvalidMoment => as_aux_lemma => k_is); (case E_InvalidLevel => as_aux_lemma => (refine' SL.xc_mk PySem.F.excBase_ValueError PySem.F.store_ValueError ?z1 ?z2 ?z3 ?z4 ?z5 ?z6 ?z7 ?z8 ?z9 ?za ?zb ?zc; (case z1 => kx_is); (case z2 => kx_is); (case z3 => k_is); (case z4 => k_is); (case z5 => k_is); (case z6 => k_is); (case z7 => k_is); (case z8 => k_is); (case z9 => k_is); (case za => k_is); (case zb => k_is); (case zc => k_is))); (case xk_InvalidLevel => as_aux_lemma => k_is); (case E_InvalidWish => as_aux_lemma => (refine' SL.xc_mk PySem.F.excBase_ValueError PySem.F.store_ValueError ?z1 ?z2 ?z3 ?z4 ?z5 ?z6 ?z7 ?z8 ?z9 ?za ?zb ?zc; (case z1 => kx_is); (case z2 => kx_is); (case z3 => k_is); (case z4 => k_is); (case z5 => k_is); (case z6 => k_is); (case z7 => k_is); (case z8 => k_is); (case z9 => k_is); (case za => k_is); (case zb => k_is); (case zc => k_is)))
    (case xk_InvalidWish => as_aux_lemma => k_is); (case E_InvalidSights => as_aux_lemma => (refine' SL.xc_mk PySem.F.excBase_ValueError PySem.F.store_ValueError ?z1 ?z2 ?z3 ?z4 ?z5 ?z6 ?z7 ?z8 ?z9 ?za ?zb ?zc; (case z1 => kx_is); (case z2 => kx_is); (case z3 => k_is); (case z4 => k_is); (case z5 => k_is); (case z6 => k_is); (case z7 => k_is); (case z8 => k_is); (case z9 => k_is); (case za => k_is); (case zb => k_is); (case zc => k_is))); (case xk_InvalidSights => as_aux_lemma => k_is); (case E_InvalidGuards => as_aux_lemma => (refine' SL.xc_mk PySem.F.excBase_ValueError PySem.F.store_ValueError ?z1 ?z2 ?z3 ?z4 ?z5 ?z6 ?z7 ?z8 ?z9 ?za ?zb ?zc; (case z1 => kx_is); (case z2 => kx_is); (case z3 => k_is); (case z4 => k_is); (case z5 => k_is); (case z6 => k_is); (case z7 => k_is); (case z8 => k_is); (case z9 => k_is); (case za => k_is); (case zb => k_is); (case zc => k_is))); (case xk_InvalidGuards => as_aux_lemma => k_is); (case E_InvalidLine => as_aux_lemma => (refine' SL.xc_mk PySem.F.excBase_ValueError PySem.F.store_ValueError ?z1 ?z2 ?z3 ?z4 ?z5 ?z6 ?z7 ?z8 ?z9 ?za ?zb ?zc; (case z1 => kx_is); (case z2 => kx_is); (case z3 => k_is); (case z4 => k_is); (case z5 => k_is); (case z6 => k_is); (case z7 => k_is); (case z8 => k_is); (case z9 => k_is); (case za => k_is); (case zb => k_is); (case zc => k_is))); (case xk_InvalidLine => as_aux_lemma => k_is); (case E_NotFacts => as_aux_lemma => (refine' SL.xc_mk PySem.F.excBase_ValueError PySem.F.store_ValueError ?z1 ?z2 ?z3 ?z4 ?z5 ?z6 ?z7 ?z8 ?z9 ?za ?zb ?zc; (case z1 => kx_is); (case z2 => kx_is); (case z3 => k_is); (case z4 => k_is); (case z5 => k_is); (case z6 => k_is); (case z7 => k_is); (case z8 => k_is); (case z9 => k_is); (case za => k_is); (case zb => k_is); (case zc => k_is)))
    (case xk_NotFacts => as_aux_lemma => k_is); (case E_NotAPuppet => as_aux_lemma => (refine' SL.xc_mk PySem.F.excBase_ValueError PySem.F.store_ValueError ?z1 ?z2 ?z3 ?z4 ?z5 ?z6 ?z7 ?z8 ?z9 ?za ?zb ?zc; (case z1 => kx_is); (case z2 => kx_is); (case z3 => k_is); (case z4 => k_is); (case z5 => k_is); (case z6 => k_is); (case z7 => k_is); (case z8 => k_is); (case z9 => k_is); (case za => k_is); (case zb => k_is); (case zc => k_is))); (case xk_NotAPuppet => as_aux_lemma => k_is); (case E_NotAScript => as_aux_lemma => (refine' SL.xc_mk PySem.F.excBase_ValueError PySem.F.store_ValueError ?z1 ?z2 ?z3 ?z4 ?z5 ?z6 ?z7 ?z8 ?z9 ?za ?zb ?zc; (case z1 => kx_is); (case z2 => kx_is); (case z3 => k_is); (case z4 => k_is); (case z5 => k_is); (case z6 => k_is); (case z7 => k_is); (case z8 => k_is); (case z9 => k_is); (case za => k_is); (case zb => k_is); (case zc => k_is))); (case xk_NotAScript => as_aux_lemma => k_is); (case E_NotARun => as_aux_lemma => (refine' SL.xc_mk PySem.F.excBase_ValueError PySem.F.store_ValueError ?z1 ?z2 ?z3 ?z4 ?z5 ?z6 ?z7 ?z8 ?z9 ?za ?zb ?zc; (case z1 => kx_is); (case z2 => kx_is); (case z3 => k_is); (case z4 => k_is); (case z5 => k_is); (case z6 => k_is); (case z7 => k_is); (case z8 => k_is); (case z9 => k_is); (case za => k_is); (case zb => k_is); (case zc => k_is))); (case xk_NotARun => as_aux_lemma => k_is); (case E_NotAWish => as_aux_lemma => (refine' SL.xc_mk PySem.F.excBase_ValueError PySem.F.store_ValueError ?z1 ?z2 ?z3 ?z4 ?z5 ?z6 ?z7 ?z8 ?z9 ?za ?zb ?zc; (case z1 => kx_is); (case z2 => kx_is); (case z3 => k_is); (case z4 => k_is); (case z5 => k_is); (case z6 => k_is); (case z7 => k_is); (case z8 => k_is); (case z9 => k_is); (case za => k_is); (case zb => k_is); (case zc => k_is)))
    (case xk_NotAWish => as_aux_lemma => k_is); (case E_UnknownPart => as_aux_lemma => (refine' SL.xc_mk PySem.F.excBase_LookupError PySem.F.store_LookupError ?z1 ?z2 ?z3 ?z4 ?z5 ?z6 ?z7 ?z8 ?z9 ?za ?zb ?zc; (case z1 => kx_is); (case z2 => kx_is); (case z3 => k_is); (case z4 => k_is); (case z5 => k_is); (case z6 => k_is); (case z7 => k_is); (case z8 => k_is); (case z9 => k_is); (case za => k_is); (case zb => k_is); (case zc => k_is))); (case xk_UnknownPart => as_aux_lemma => k_is); (case E_UnknownHook => as_aux_lemma => (refine' SL.xc_mk PySem.F.excBase_LookupError PySem.F.store_LookupError ?z1 ?z2 ?z3 ?z4 ?z5 ?z6 ?z7 ?z8 ?z9 ?za ?zb ?zc; (case z1 => kx_is); (case z2 => kx_is); (case z3 => k_is); (case z4 => k_is); (case z5 => k_is); (case z6 => k_is); (case z7 => k_is); (case z8 => k_is); (case z9 => k_is); (case za => k_is); (case zb => k_is); (case zc => k_is))); (case xk_UnknownHook => as_aux_lemma => k_is); (case E_UnknownName => as_aux_lemma => (refine' SL.xc_mk PySem.F.excBase_LookupError PySem.F.store_LookupError ?z1 ?z2 ?z3 ?z4 ?z5 ?z6 ?z7 ?z8 ?z9 ?za ?zb ?zc; (case z1 => kx_is); (case z2 => kx_is); (case z3 => k_is); (case z4 => k_is); (case z5 => k_is); (case z6 => k_is); (case z7 => k_is); (case z8 => k_is); (case z9 => k_is); (case za => k_is); (case zb => k_is); (case zc => k_is))); (case xk_UnknownName => as_aux_lemma => k_is); (case E_NoWay => as_aux_lemma => (refine' SL.xc_mk PySem.F.excBase_LookupError PySem.F.store_LookupError ?z1 ?z2 ?z3 ?z4 ?z5 ?z6 ?z7 ?z8 ?z9 ?za ?zb ?zc; (case z1 => kx_is); (case z2 => kx_is); (case z3 => k_is); (case z4 => k_is); (case z5 => k_is); (case z6 => k_is); (case z7 => k_is); (case z8 => k_is); (case z9 => k_is); (case za => k_is); (case zb => k_is); (case zc => k_is)))
    (case xk_NoWay => as_aux_lemma => k_is); (case E_OtherNames => as_aux_lemma => (refine' SL.xc_mk PySem.F.excBase_LookupError PySem.F.store_LookupError ?z1 ?z2 ?z3 ?z4 ?z5 ?z6 ?z7 ?z8 ?z9 ?za ?zb ?zc; (case z1 => kx_is); (case z2 => kx_is); (case z3 => k_is); (case z4 => k_is); (case z5 => k_is); (case z6 => k_is); (case z7 => k_is); (case z8 => k_is); (case z9 => k_is); (case za => k_is); (case zb => k_is); (case zc => k_is))); (case xk_OtherNames => as_aux_lemma => k_is); (case E_OtherParts => as_aux_lemma => (refine' SL.xc_mk PySem.F.excBase_LookupError PySem.F.store_LookupError ?z1 ?z2 ?z3 ?z4 ?z5 ?z6 ?z7 ?z8 ?z9 ?za ?zb ?zc; (case z1 => kx_is); (case z2 => kx_is); (case z3 => k_is); (case z4 => k_is); (case z5 => k_is); (case z6 => k_is); (case z7 => k_is); (case z8 => k_is); (case z9 => k_is); (case za => k_is); (case zb => k_is); (case zc => k_is))); (case xk_OtherParts => as_aux_lemma => k_is); (case E_Contradictory => as_aux_lemma => (refine' SL.xc_mk PySem.F.excBase_LookupError PySem.F.store_LookupError ?z1 ?z2 ?z3 ?z4 ?z5 ?z6 ?z7 ?z8 ?z9 ?za ?zb ?zc; (case z1 => kx_is); (case z2 => kx_is); (case z3 => k_is); (case z4 => k_is); (case z5 => k_is); (case z6 => k_is); (case z7 => k_is); (case z8 => k_is); (case z9 => k_is); (case za => k_is); (case zb => k_is); (case zc => k_is))); (case xk_Contradictory => as_aux_lemma => k_is); (case E_Never => as_aux_lemma => k_exc)
    (case xk_Never => as_aux_lemma => k_is); (case E_Busy => as_aux_lemma => k_exc); (case xk_Busy => as_aux_lemma => k_is); (case E_NothingToUndo => as_aux_lemma => k_exc); (case xk_NothingToUndo => as_aux_lemma => k_is); (case E_Refused => as_aux_lemma => (refine' SL.xcb_mk PySem.F.excBase_LookupError PySem.F.store_LookupError ?z1 ?z2 ?z3 ?z4 ?z5 ?z6 ?z7 ?z8 ?z9 ?za; (case z1 => kx_is); (case z2 => kx_is); (case z3 => k_is); (case z4 => k_is); (case z5 => k_is); (case z6 => k_is); (case z7 => k_is); (case z8 => k_is); (case z9 => k_is); (case za => k_is))); (case xk_Refused => as_aux_lemma => k_is); (case E_TooMany => as_aux_lemma => (refine' SL.xc_mk PySem.F.excBase_ArithmeticError PySem.F.store_ArithmeticError ?z1 ?z2 ?z3 ?z4 ?z5 ?z6 ?z7 ?z8 ?z9 ?za ?zb ?zc; (case z1 => kx_is); (case z2 => kx_is); (case z3 => k_is); (case z4 => k_is); (case z5 => k_is); (case z6 => k_is); (case z7 => k_is); (case z8 => k_is); (case z9 => k_is); (case za => k_is); (case zb => k_is); (case zc => k_is)))
    (case xk_TooMany => as_aux_lemma => k_is); (case XS_l => k_is); (case XS_c => rfl); (case XB_a => as_aux_lemma => kernel_rfl); (case XB_k => as_aux_lemma => kernel_rfl); (case XB_given => as_aux_lemma => kernel_rfl); (case XB_index => as_aux_lemma => kernel_rfl); (case XB_limit => as_aux_lemma => kernel_rfl)
    (case XB_move => as_aux_lemma => kernel_rfl); (case XB_shown => as_aux_lemma => kernel_rfl); (case XB_value => as_aux_lemma => kernel_rfl); (case XB_weights => as_aux_lemma => kernel_rfl); (case z_ArithmeticError => as_aux_lemma => k_is); (case z_LookupError => as_aux_lemma => k_is); (case z_ValueError => as_aux_lemma => k_is); (case z_abs => as_aux_lemma => k_is)
    (case z_all => as_aux_lemma => k_is); (case z_bool => as_aux_lemma => k_is); (case z_enumerate => as_aux_lemma => k_is); (case z_int => as_aux_lemma => k_is); (case z_isinstance => as_aux_lemma => k_is); (case z_len => as_aux_lemma => k_is); (case z_max => as_aux_lemma => k_is); (case z_min => as_aux_lemma => k_is)
    (case z_range => as_aux_lemma => k_is); (case z_repr => as_aux_lemma => k_is); (case z_str => as_aux_lemma => k_is); (case z_tuple => as_aux_lemma => k_is); (case kc_MOST_AMOUNT => k_is); (case kc_MOST_DEPTH => k_is); (case kc_MOST_FACTS => k_is); (case kc_MOST_GUARDS => k_is)
    (case kc_MOST_HAULS => k_is); (case kc_MOST_HOOKS => k_is); (case kc_MOST_MOVES => k_is); (case kc_MOST_OVERS => k_is); (case kc_MOST_PARTS => k_is); (case kc_MOST_SIGHTS => k_is); (case kc_MOST_STRINGS => k_is); (case kc_MOST_TIES => k_is)
    (case kc_MOST_WISHES => k_is); (case pg_Puppet => as_aux_lemma => k_is); (case hd_Puppet => as_aux_lemma => k_is); (case po_Puppet => as_aux_lemma => k_is); (case sa_Puppet => as_aux_lemma => k_is); (case mk_Puppet => as_aux_lemma => k_is); (case kc_Puppet => k_is); (case sf_Puppet => as_aux_lemma => k_is)
    (case si_Puppet => as_aux_lemma => k_is); (case sj_Puppet => as_aux_lemma => k_is); (case ha_Puppet => as_aux_lemma => k_is); (case hm_Puppet => as_aux_lemma => k_is); (case kb_Puppet_int => as_aux_lemma => kit_is); (case kb_Puppet_bool => as_aux_lemma => kit_is); (case kb_Puppet_str => as_aux_lemma => kit_is); (case kb_Puppet_tuple => as_aux_lemma => kit_is)
    (case kb_Puppet_list => as_aux_lemma => kit_is); (case kb_Puppet_dict => as_aux_lemma => kit_is); (case kt_Puppet_NoneType => as_aux_lemma => kit_is); (case nf_Puppet_NoneType => as_aux_lemma => k_is); (case kt_Puppet_bool => as_aux_lemma => kit_is); (case nf_Puppet_bool => as_aux_lemma => k_is); (case kt_Puppet_int => as_aux_lemma => kit_is); (case nf_Puppet_int => as_aux_lemma => k_is)
    (case kt_Puppet_str => as_aux_lemma => kit_is); (case nf_Puppet_str => as_aux_lemma => k_is); (case kt_Puppet_list => as_aux_lemma => kit_is); (case nf_Puppet_list => as_aux_lemma => k_is); (case kt_Puppet_tuple => as_aux_lemma => kit_is); (case nf_Puppet_tuple => as_aux_lemma => k_is); (case kt_Puppet_dict => as_aux_lemma => kit_is); (case nf_Puppet_dict => as_aux_lemma => k_is)
    (case nn_Puppet_Puppet => as_aux_lemma => k_is); (case hn => as_aux_lemma => k_is); (case ht => as_aux_lemma => k_is); (case na_Puppet_hooks => as_aux_lemma => k_is); (case na_Puppet_names => as_aux_lemma => k_is); (case na_Puppet_parts => as_aux_lemma => k_is); (case na_Puppet_strings => as_aux_lemma => k_is); (case na_Puppet_ties => as_aux_lemma => k_is)
    (case na_Puppet_ways => as_aux_lemma => k_is); (case ne_Puppet => as_aux_lemma => k_is); (case ob_Puppet => as_aux_lemma => k_is)
