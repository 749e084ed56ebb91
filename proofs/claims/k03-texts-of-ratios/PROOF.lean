import PyProof.Rows.All
import Wide.All
import OpenK.AllK
import Wide.FinOn
import HandS.Call
import HandS.Words
import HandS.WordsExc
import HandS.Defaults
import HandS.MakeKw
import HandS.MakeKwOnly
import PyProof.TwoTypes
import PyProof.ListMulRight
import PyProof.NeKinds
import PyProof.InstNe
import KE.KOpsOwn
import HandS.ForMost
import HandS.ForExc
import HandS.IsInst
import HandS.Wide
import HandS.EndBits
import HandS.FStr
import HandS.DictComp
import HandS.Walk
import HandS.Zip
import HandS.RaiseMore
import HandS.Steps
import KE.KCallOwn
import HandS.Lambda
import HandS.TupAny
import HandS.Deep
import HandS.More
import HandS.Conv
import KE.KDictPairs
import KE.GoesEnum
import PyProof.ListStr
import HandS.Style
import PyProof.ReprRoads
import HandS.Ends
import HandS.Exc
import KE.KExcInit
import KE.KExcIs
import KE.KTryMore
import PyProof.ExcBaseAll.LookupError
import PyProof.ExcBaseAll.ArithmeticError
import PyProof.ExcBaseAll.ValueError
import HandS.HotCalls
import HandS.EndTab
import KE.KNest
import HandS.SetFor
import HandS.ExcOwn
import HandS.TryOnly
import HandS.OwnEq
import PyProof.InstSpecial
import PyProof.ListTruth
import PyProof.Conv_bool
import PyProof.Rows.Range3
import PyProof.Draws
import HandS.List
import PySem.Challenge.RW_slackstrings_k03_texts_of_ratios
import HandS.Text
import PyProof.TupleOfStr
import PyProof.SliceStr2
import HandS.TupMul
import HandS.Codes
import KE.IntTextLaws
import HandS.Replace
import HandS.ReplaceLit
import HandS.Comp
import PyProof.StrReplace2
import PyProof.ReprLen
import PyProof.Rows.StrIntSpec
import PyProof.Rows.StrBin
import KE.KIntText
import KE.IntTextText
set_option linter.all false
/-! ### a mirror of the program over plain data: values, a store of slots, combinators that run -/
namespace DY
/-- a key of a dict -/
abbrev Ky := Sum Int (List Nat)
inductive BT where
  | int | bool | str | tuple | list | dict | set | xv | xl | xa
  deriving DecidableEq
/-- data: no heap; an instance is its class' number and its attributes in order -/
inductive D where
  | non
  | bl (b : Bool)
  | int (i : Int)
  | str (s : List Nat)
  | tup (xs : List D)
  | kt (xs : List D)
  | lst (xs : List D)
  | fls (xs : List D)
  | dic (kvs : List (Ky × D))
  | dct (kvs : List (List Ky × D))
  | ins (c : Nat) (fs : List D)
  | ty (t : BT)
  | cls (c : Nat)
  | any
/-- what a run gives: an end, an exception, or nothing that is told -/
inductive R (α : Type) where
  | ok (a : α)
  | ex (d : D)
  | no
@[reducible] def R.bind {α β : Type} : R α → (α → R β) → R β
  | .ok a, f => f a
  | .ex d, _ => .ex d
  | .no, _ => .no
instance : Monad R where
  pure := R.ok
  bind := R.bind
theorem bind_ok {α β : Type} {r : R α} {f : α → R β} {b : β} (h : (r >>= f) = .ok b) : ∃ a, r = .ok a ∧ f a = .ok b := by
  cases r with
  | ok a => exact ⟨a, rfl, h⟩
  | ex d => cases h
  | no => cases h
/-- a slot: nothing known; a value that nobody changes any more; an object of this def's own -/
inductive Slot where
  | un
  | sh (d : D)
  | ow (d : D)
abbrev Env := List Slot
abbrev Rv := D × Bool
abbrev Ev := Env → R (Rv × Env)
/-- the value, its object given up -/
def val (e : Ev) : Env → R (D × Env) := fun ρ => do
  let (r, ρ') ← e ρ
  pure (r.1, ρ')
def eVar (i : Nat) : Ev := fun ρ =>
  match ρ[i]? with
  | some (.sh d) => .ok ((d, false), ρ)
  | some (.ow d) => .ok ((d, false), ρ.set i (.sh d))
  | _ => .no
def eMove (i : Nat) : Ev := fun ρ =>
  match ρ[i]? with
  | some (.sh d) => .ok ((d, false), ρ)
  | some (.ow d) => .ok ((d, true), ρ.set i .un)
  | _ => .no
def eC (d : D) : Ev := fun ρ => .ok ((d, false), ρ)
def eBin (f : D → D → R Rv) (a b : Ev) : Ev := fun ρ => do
  let (x, ρ1) ← val a ρ
  let (y, ρ2) ← val b ρ1
  let r ← f x y
  pure (r, ρ2)
def eUn (f : D → R Rv) (a : Ev) : Ev := fun ρ => do
  let (x, ρ1) ← val a ρ
  let r ← f x
  pure (r, ρ1)
/-- an operation that looks at the object of slot i, without giving it up: x op slot -/
def look (ρ : Env) (i : Nat) : R D :=
  match ρ[i]? with
  | some (.sh d) => .ok d
  | some (.ow d) => .ok d
  | _ => .no
def eBor (f : D → D → R Rv) (i : Nat) (b : Ev) : Ev := fun ρ => do
  let _ ← look ρ i
  let (y, ρ1) ← val b ρ
  let d ← look ρ1 i
  let r ← f d y
  pure (r, ρ1)
/-- x op slot -/
def eBorR (f : D → D → R Rv) (a : Ev) (i : Nat) : Ev := fun ρ => do
  let (x, ρ1) ← val a ρ
  let d ← look ρ1 i
  let r ← f x d
  pure (r, ρ1)
def eBor1 (f : D → R Rv) (i : Nat) : Ev := fun ρ => do
  let d ← look ρ i
  let r ← f d
  pure (r, ρ)
def evs : List Ev → Env → R (List D × Env)
  | [], ρ => .ok ([], ρ)
  | e :: es, ρ => do
    let (x, ρ1) ← val e ρ
    let (xs, ρ2) ← evs es ρ1
    pure (x :: xs, ρ2)
def eN (f : List D → R Rv) (as : List Ev) : Ev := fun ρ => do
  let (xs, ρ1) ← evs as ρ
  let r ← f xs
  pure (r, ρ1)
def isB : D → R Bool
  | .bl b => .ok b
  | _ => .no
def eIf (t a b : Ev) : Ev := fun ρ => do
  let (x, ρ1) ← val t ρ
  let c ← isB x
  if c then a ρ1 else b ρ1
def eAnd (a b : Ev) : Ev := fun ρ => do
  let (x, ρ1) ← val a ρ
  let c ← isB x
  if c then b ρ1 else .ok ((.bl false, false), ρ1)
def eOr (a b : Ev) : Ev := fun ρ => do
  let (x, ρ1) ← val a ρ
  let c ← isB x
  if c then .ok ((.bl true, false), ρ1) else b ρ1
def eNot (a : Ev) : Ev := fun ρ => do
  let (x, ρ1) ← val a ρ
  let c ← isB x
  pure ((.bl (!c), false), ρ1)
/-- a op b op' c -/
def eChain (f g : D → D → R Rv) (a b c : Ev) : Ev := fun ρ => do
  let (x, ρ1) ← val a ρ
  let (y, ρ2) ← val b ρ1
  let r ← f x y
  let k ← isB r.1
  if k then do
    let (z, ρ3) ← val c ρ2
    let r ← g y z
    pure (r, ρ3)
  else .ok ((.bl false, false), ρ2)
/-- a def without a borrowed parameter; with one -/
abbrev Fn := List D → R Rv
abbrev FnR := List D → D → R (Rv × D)
/-- a call that lends the object of slot i -/
def eCallR (F : FnR) (pre : List Ev) (i : Nat) (post : List Ev) : Ev := fun ρ => do
  let _ ← look ρ i
  let (xs, ρ1) ← evs pre ρ
  let (ys, ρ2) ← evs post ρ1
  match ρ2[i]? with
  | some (.ow d) => do
    let (r, d') ← F (xs ++ ys) d
    pure (r, ρ2.set i (.ow d'))
  | _ => .no
/-- a call that lends a new object, its last argument -/
def eCallT (F : FnR) (pre : List Ev) (e : Ev) : Ev := fun ρ => do
  let (xs, ρ1) ← evs pre ρ
  let (t, ρ2) ← e ρ1
  if t.2 then do
    let (r, _) ← F xs t.1
    pure (r, ρ2)
  else .no
def isIns (c : Nat) : D → R Unit
  | .ins c' _ => if c' = c then .ok () else .no
  | _ => .no
/-- o.m(..), o an instance of class c; with keywords: g puts the values in the parameters' order -/
def eMeth (c : Nat) (F : Fn) (a : Ev) (ms : List Ev) : Ev := fun ρ => do
  let (x, ρ1) ← val a ρ
  isIns c x
  let (xs, ρ2) ← evs ms ρ1
  let r ← F (x :: xs)
  pure (r, ρ2)
def eMethK (c : Nat) (F : Fn) (g : List D → List D → List D) (a : Ev) (ms ks : List Ev) : Ev := fun ρ => do
  let (x, ρ1) ← val a ρ
  isIns c x
  let (xs, ρ2) ← evs ms ρ1
  let (zs, ρ3) ← evs ks ρ2
  let r ← F (g (x :: xs) zs)
  pure (r, ρ3)
/-- f(.., k = v) -/
def eNK (F : Fn) (g : List D → List D → List D) (ms ks : List Ev) : Ev := fun ρ => do
  let (xs, ρ2) ← evs ms ρ
  let (zs, ρ3) ← evs ks ρ2
  let r ← F (g xs zs)
  pure (r, ρ3)
/-- one of two readings of an operator -/
def sel (g : D → D → Bool) (f h : D → D → R Rv) : D → D → R Rv := fun x y => if g x y then f x y else h x y
def sel1 (g : D → Bool) (f h : D → R Rv) : D → R Rv := fun x => if g x then f x else h x
def isC (c : Nat) : D → Bool
  | .ins c' _ => decide (c' = c)
  | _ => false
def cc (c : Nat) (x y : D) : Bool := isC c x && isC c y
def hasTy : D → Bool
  | .non => true
  | .bl _ => true
  | .int _ => true
  | .str _ => true
  | .tup _ => true
  | .lst _ => true
  | .dic _ => true
  | .ins _ _ => true
  | _ => false
def cany (c : Nat) (x y : D) : Bool := isC c x && hasTy y
/-! ### statements -/
inductive Out where
  | nx | bk | ct
  | rt (r : Rv)
abbrev Sv := Env → R (Out × Env)
def sNext : Sv := fun ρ => .ok (.nx, ρ)
def sNo : Sv := fun _ => .no
def sSeq (s t : Sv) : Sv := fun ρ => do
  let (o, ρ1) ← s ρ
  match o with
  | .nx => t ρ1
  | o => .ok (o, ρ1)
/-- what a name holds then: its own object, if it is new and w says so -/
def keep (w : Bool) (r : Rv) : Slot := if r.2 && w then .ow r.1 else .sh r.1
def sAsg (w : Bool) (i : Nat) (e : Ev) : Sv := fun ρ => do
  let (r, ρ1) ← e ρ
  pure (.nx, ρ1.set i (keep w r))
def sPar (w : Bool) (i j : Nat) (a b : Ev) : Sv := fun ρ => do
  let (r, ρ1) ← a ρ
  let (q, ρ2) ← b ρ1
  pure (.nx, (ρ2.set i (keep w r)).set j (keep w q))
abbrev Tg := D → Env → R Env
def gN (i : Nat) : Tg := fun d ρ => .ok (ρ.set i (.sh d))
def gGo : List Tg → List D → Env → R Env
  | [], [], ρ => .ok ρ
  | g :: gs, d :: ds, ρ => do
    let ρ1 ← g d ρ
    gGo gs ds ρ1
  | _, _, _ => .no
def gT (gs : List Tg) : Tg := fun d ρ =>
  match d with
  | .tup ds => gGo gs ds ρ
  | .kt ds => gGo gs ds ρ
  | _ => .no
def sAsgT (g : Tg) (e : Ev) : Sv := fun ρ => do
  let (x, ρ1) ← val e ρ
  let ρ2 ← g x ρ1
  pure (.nx, ρ2)
def sExpr (e : Ev) : Sv := fun ρ => do
  let (_, ρ1) ← val e ρ
  pure (.nx, ρ1)
def sRet (e : Ev) : Sv := fun ρ => do
  let (r, ρ1) ← e ρ
  pure (.rt r, ρ1)
/-- return x, x a local name: its object goes out -/
def sRetV (i : Nat) : Sv := fun ρ => do
  let (r, ρ1) ← eMove i ρ
  pure (.rt r, ρ1)
def sRetN : Sv := fun ρ => .ok (.rt (.non, false), ρ)
def sIf (t : Ev) (a b : Sv) : Sv := fun ρ => do
  let (x, ρ1) ← val t ρ
  let c ← isB x
  if c then a ρ1 else b ρ1
abbrev Iv := Env → R (List D × Env)
def forGo (g : Tg) (body : Sv) : List D → Env → R (Out × Env)
  | [], ρ => .ok (.nx, ρ)
  | d :: ds, ρ => do
    let ρ1 ← g d ρ
    let (o, ρ2) ← body ρ1
    match o with
    | .nx => forGo g body ds ρ2
    | .ct => forGo g body ds ρ2
    | .bk => .ok (.nx, ρ2)
    | .rt r => .ok (.rt r, ρ2)
def sFor (it : Iv) (g : Tg) (body : Sv) : Sv := fun ρ => do
  let (ds, ρ1) ← it ρ
  forGo g body ds ρ1
def whileGo (t : Ev) (body : Sv) (n : Nat) : Env → R (Out × Env) :=
  Nat.rec (fun _ => .no) (fun _ ih ρ => do
    let (x, ρ1) ← val t ρ
    let c ← isB x
    if c then do
      let (o, ρ2) ← body ρ1
      match o with
      | .nx => ih ρ2
      | .ct => ih ρ2
      | .bk => .ok (.nx, ρ2)
      | .rt r => .ok (.rt r, ρ2)
    else .ok (.nx, ρ1)) n
def fuel : Nat := 2 ^ 9000
def sWhile (t : Ev) (body : Sv) : Sv := fun ρ => whileGo t body fuel ρ
/-- slot i's own object is changed by f; the answer -/
def isL : D → R Unit
  | .lst _ => .ok ()
  | _ => .no
def eMut (f : D → List D → R (D × D)) (i : Nat) (as : List Ev) : Ev := fun ρ => do
  let d0 ← look ρ i
  isL d0
  let (xs, ρ1) ← evs as ρ
  match ρ1[i]? with
  | some (.ow d) => do
    let (r, d') ← f d xs
    pure ((r, false), ρ1.set i (.ow d'))
  | _ => .no
/-- slot[e] = v : the value first -/
def sPut (f : D → D → D → R D) (i : Nat) (e v : Ev) : Sv := fun ρ => do
  let (y, ρ1) ← val v ρ
  let _ ← look ρ1 i
  let (x, ρ2) ← val e ρ1
  match ρ2[i]? with
  | some (.ow d) => do
    let d' ← f d x y
    pure (.nx, ρ2.set i (.ow d'))
  | _ => .no
/-- self.f = e, the k-th attribute -/
def sFld (c k : Nat) (e : Ev) : Sv := fun ρ => do
  let (y, ρ1) ← val e ρ
  match (ρ1[0]? : Option Slot) with
  | some (.ow (.ins c' fs)) => if c' = c ∧ k = fs.length then .ok (.nx, ρ1.set 0 (.ow (.ins c' (fs ++ [y])))) else .no
  | _ => .no
/-- x.get(k, z): x a value; the object of slot i -/
def eGet (f : D → D → D → R Rv) (a k z : Ev) : Ev := fun ρ => do
  let (x, ρ1) ← val a ρ
  let (y, ρ2) ← val k ρ1
  let (w, ρ3) ← val z ρ2
  let r ← f x y w
  pure (r, ρ3)
def eGetS (f : D → D → D → R Rv) (i : Nat) (k z : Ev) : Ev := fun ρ => do
  let d0 ← look ρ i
  let (y, ρ2) ← val k ρ
  let (w, ρ3) ← val z ρ2
  let d ← look ρ3 i
  let _ ← f d0 y w
  let r ← f d y w
  pure (r, ρ3)
/-! ### comprehensions -/
def wipeS (ρ : Env) : List Nat → Env
  | [] => ρ
  | i :: is => (wipeS ρ is).set i .un
/-- the slots vs as they were in ρ0 -/
def backS (ρ0 ρ : Env) : List Nat → Env
  | [] => ρ
  | i :: is => (backS ρ0 ρ is).set i (ρ0.getD i .un)
def noOw (ρ : Env) (vs : List Nat) : Bool := vs.all fun i => match ρ[i]? with | some (.ow _) => false | some _ => true | none => false
/-- the tests of a comprehension -/
def cond : Option Ev → Env → R (Bool × Env)
  | none, ρ => .ok (true, ρ)
  | some t, ρ => do
    let (x, ρ') ← val t ρ
    let b ← isB x
    pure (b, ρ')
def lcGo (g : Tg) (c : Option Ev) (e : Ev) (vs : List Nat) : List D → List D → Env → R (List D × Env)
  | [], acc, ρ => .ok (acc, ρ)
  | d :: ds, acc, ρ => do
    let ρ1 ← g d (wipeS ρ vs)
    let (k, ρ2) ← cond c ρ1
    if k then do
      let (y, ρ3) ← val e ρ2
      lcGo g c e vs ds (acc ++ [y]) ρ3
    else lcGo g c e vs ds acc ρ2
def eLc (it : Iv) (g : Tg) (c : Option Ev) (e : Ev) (vs : List Nat) : Ev := fun ρ => do
  let (ds, ρ1) ← it ρ
  if noOw ρ1 vs && decide (ds.length ≤ 1000) then do
    let (acc, ρ2) ← lcGo g c e vs ds [] ρ1
    pure ((.lst acc, true), backS ρ1 ρ2 vs)
  else .no
/-! ### dicts -/
section
variable {κ : Type} [DecidableEq κ]
def dget (kvs : List (κ × D)) (k : κ) : Option D := (kvs.find? fun kv => decide (kv.1 = k)).map (·.2)
def dput (kvs : List (κ × D)) (k : κ) (v : D) : List (κ × D) :=
  if (kvs.any fun kv => decide (kv.1 = k)) = true then kvs.map (fun kv => if kv.1 = k then (kv.1, v) else kv) else kvs ++ [(k, v)]
end
def keyOf : D → R Ky
  | .int i => .ok (.inl i)
  | .str s => .ok (.inr s)
  | _ => .no
def keysOf : List D → R (List Ky)
  | [] => .no
  | [d] => do
    let k ← keyOf d
    pure [k]
  | d :: ds => do
    let k ← keyOf d
    let ks ← keysOf ds
    pure (k :: ks)
def kyD : Ky → D
  | .inl i => .int i
  | .inr s => .str s
/-! ### defs -/
def slots (n : Nat) (ds : List D) : Env := ds.map Slot.sh ++ List.replicate (n - ds.length) .un
def endOf : Out → R Rv
  | .nx => .ok (.non, false)
  | .rt r => .ok r
  | _ => .no
def mkFn (n p : Nat) (body : Sv) : Fn := fun ds =>
  if ds.length = p then do
    let (o, _) ← body (slots n ds)
    endOf o
  else .no
/-- the parameter at j is lent -/
def mkFnR (n p j : Nat) (body : Sv) : FnR := fun ds d =>
  if ds.length + 1 = p ∧ j < p then do
    let (o, ρ) ← body ((slots n (ds.take j ++ d :: ds.drop j)).set j (.ow d))
    let r ← endOf o
    match ρ[j]? with
    | some (.ow d') => .ok (r, d')
    | _ => .no
  else .no
/-- C(..) by its __init__: self is lent -/
def mkObj (c : Nat) (init : FnR) : Fn := fun ds => do
  let (r, d) ← init ds (.ins c [])
  match r with
  | (.non, false) => .ok (d, false)
  | _ => .no
end DY

set_option Elab.async false
set_option linter.all false
set_option maxRecDepth 100000
set_option maxHeartbeats 4000000
/-! SLG: contracts of defs that are called while nothing is being shown (so that repr of containers can be read). -/
namespace SL
open PySem L2 PySem.Spec PyProof.Rows
structure Room (k : Nat) (A : Around) : Prop extends L2.Room k A where
  g : A.guards = some []
section
variable {j k : Nat} {A : Around}
theorem Room.mono (r : Room k A) (h : j ≤ k) : Room j A := ⟨r.toRoom.mono h, r.g⟩
theorem Room.deeper (r : Room (k + 1) A) (env : Env) : Room k (A.deeper env) := ⟨r.toRoom.deeper env, r.g⟩
theorem Room.in1 (r : Room (k + 1) A) : Room k A.in1 := ⟨r.toRoom.in1, r.g⟩
theorem Room.make (r : Room (k + 1) A) (C : Addr) (us : List Value) (kw : List (Str × Value)) : Room k (A.under (.builtin "type.__call__" ⟨.ref C :: us, kw⟩)) := ⟨r.toRoom.make C us kw, by
  have : (A.under (.builtin "type.__call__" ⟨.ref C :: us, kw⟩)).guards = A.guards := by
    first | rfl | simp [Around.under, Code.guards, Code.isGuard, guardIds, pushGuards]
  rw [this]; exact r.g⟩
end
/-- what a def promises -/
structure FnOk (P : Program) (w : World) (K : PySem.W.Frag) (mg : Str → Option Value) (base : Heap) (CX : CXT) (k : Nat) (f : Addr) (fd : FuncData) (ps : List Str) (sp : Sp) : Prop where
  len : ∀ vs H Q E, sp vs H Q E → vs.length = ps.length
  run : ∀ (A : Around) (outer : List Env) (s : Shared) (H : Hp) (args : Args) (us : List Value) (vs : List V) (Q : VK) (E : XK), Room k A → Env0 P w K mg base A outer s H → BindsTo s fd args (ps.zip us) → Vals vs us → sp vs H Q E → codeAny (model P w) A (.call (.ref f) args) (CR CX outer P w H s Q E) s
section
variable {X : Cx} {CX : CXT} {k n : Nat} {f C : Addr} {fd : FuncData} {ps ks : List Str} {sp : Sp} {E : XK} {dvs : List V} {ds : List Value} {x m : Str} {p pos apos : Pos} {e o : Expr} {es : List Expr} {ta : TE} {t tk : TA} {kws : List Keyword} {g : List Value → List Value → List Value} {gV : List V → List V → List V}
variable {pins : List (Addr × Obj)} {σ : L2.St} {H : Hp} {s : Shared} {Q : VK} {us ws : List Value} {vs zs : List V}
/-- behind a call -/
def AftR (X : Cx) (R : Value → Shared → Prop) : Result → Shared → Prop
  | .ok (.ret u), s' => R u s'
  | .ok _, _ => False
  | .error e, s' => X.xe e s'
theorem after_call (hx : Passes CX X E) (I : Inv X pins σ H s) {r : Result} {s' : Shared} (h : CR CX X.stack X.prog X.w H s Q E r s') : AftR X (EP X pins σ Q) r s' := by
  cases r with
  | error e => exact hx pins σ H s e s' I h
  | ok fl =>
    cases fl with
    | ret u => exact I.after h
    | next => exact h
    | brk => exact h
    | cont => exact h
theorem run_fn (F : FnOk X.prog X.w X.K X.mg X.base CX k f fd ps sp) (hr : Room k X.A) (hb : Binds X.K fd ps ds) (hd : Vals dvs ds) (hx : Passes CX X E) (I : Inv X pins σ H s) (r : Vals vs us) (h : sp (vs ++ dvs) H Q E) : wpAny (model X.prog X.w) X.A (call (.ref f) us) (EP X pins σ Q) X.xe s := by
  have r2 : Vals (vs ++ dvs) (us ++ ds) := r.append hd
  refine wpAny_call (codeAny_mono (F.run X.A X.stack s H ⟨us, []⟩ (us ++ ds) (vs ++ dvs) Q E hr I.env0 (hb s us I.kIn (r2.length.symm.trans (F.len _ _ _ _ h))) r2 h) fun q s' hq => ?_)
  have z := after_call hx I hq
  match q, z with
  | .error _, z => exact z
  | .ok (.ret _), z => exact z
theorem run_fnN (F : FnOk X.prog X.w X.K X.mg X.base CX k f fd ps sp) (hr : Room k X.A) (hb : KBn X.K fd ps n ks g gV) (hx : Passes CX X E) (I : Inv X pins σ H s) (r : Vals vs us) (rz : Vals zs ws) (l1 : vs.length = n) (l2 : zs.length = ks.length) (h : sp (gV vs zs) H Q E) : wpAny (model X.prog X.w) X.A (call (.ref f) us (ks.zip ws)) (EP X pins σ Q) X.xe s := by
  refine wpAny_call (codeAny_mono (F.run X.A X.stack s H ⟨us, ks.zip ws⟩ (g us ws) (gV vs zs) Q E hr I.env0 (hb.to s us ws I.kIn (r.length.symm.trans l1) (rz.length.symm.trans l2)) (hb.rel r rz) h) fun q s' hq => ?_)
  have z := after_call hx I hq
  match q, z with
  | .error _, z => exact z
  | .ok (.ret _), z => exact z
/-- a new object: its place, its own dict, and what its maker promises -/
theorem made_end {x : Addr} (I : Inv X pins σ H s) (hx : Passes CX X E) {q : Result} {s' : Shared} (hq : CR CX X.stack X.prog X.w H s (fun v H2 => v = .non ∧ Q (.ref x) H2) E q s') : AftR X (fun u s' => u = .none ∧ EP X pins σ Q (.ref x) s') q s' := by
  have z := after_call hx I hq
  match q, z with
  | .error _, z => exact z
  | .ok (.ret u), ⟨v, H', I3, rv, ev, q3⟩ =>
    subst ev
    exact ⟨rv, ⟨V.ref x, H', I3, rfl, q3⟩⟩
theorem run_makeN (M : Mk X.K C f) (F : FnOk X.prog X.w X.K X.mg X.base CX k f fd ps sp) (hr : Room (k + 1) X.A) (hb : KBn X.K fd ps (n + 1) ks g gV) (hx : Passes CX X E) (I : Inv X pins σ H s) (r : Vals vs us) (rz : Vals zs ws) (l1 : vs.length = n) (l2 : zs.length = ks.length)
    (h : ∀ x dx, H x = none → H dx = none → dx ≠ x → sp (gV (.ref x :: vs) zs) (upd (upd H dx (.own x)) x (.ins C dx [])) (fun v H2 => v = .non ∧ Q (.ref x) H2) E) : wpAny (model X.prog X.w) X.A (call (.ref C) us (ks.zip ws)) (EP X pins σ Q) X.xe s := by
  have hq := h (s.heap.objs.size + 1) s.heap.objs.size (I.hok.fresh (Nat.le_succ _)) (I.hok.fresh (Nat.le_refl _)) (Nat.ne_of_lt (Nat.lt_succ_self _))
  have I2 := Inv.made (C := C) I
  have r1 : Vals (V.ref (s.heap.objs.size + 1) :: vs) (Value.ref (s.heap.objs.size + 1) :: us) := .cons rfl r
  have e1 : (Value.ref (s.heap.objs.size + 1) :: us).length = n + 1 := r1.length.symm.trans (congrArg Nat.succ l1)
  refine wpAny_call (make_map (f := f) I.kIn M.makes M.init (beq_iff_eq.mp M.fn) (codeAny_mono (F.run _ X.stack _ _ ⟨Value.ref (s.heap.objs.size + 1) :: us, ks.zip ws⟩ (g (Value.ref (s.heap.objs.size + 1) :: us) ws) _ _ E (hr.make C us (ks.zip ws)) (I2.env0.make C us (ks.zip ws)) (hb.to _ (Value.ref (s.heap.objs.size + 1) :: us) ws I2.kIn e1 (rz.length.symm.trans l2)) (hb.rel r1 rz) hq) fun q s' hq' => ?_))
  have z := made_end I2 hx hq'
  match q, z with
  | .error _, z => exact z
  | .ok (.ret _), z => exact z
theorem run_make (M : Mk X.K C f) (F : FnOk X.prog X.w X.K X.mg X.base CX k f fd ps sp) (hr : Room (k + 1) X.A) (hb : Binds X.K fd ps ds) (hd : Vals dvs ds) (hx : Passes CX X E) (I : Inv X pins σ H s) (r : Vals vs us)
    (h : ∀ x dx, H x = none → H dx = none → dx ≠ x → sp (.ref x :: (vs ++ dvs)) (upd (upd H dx (.own x)) x (.ins C dx [])) (fun v H2 => v = .non ∧ Q (.ref x) H2) E) : wpAny (model X.prog X.w) X.A (call (.ref C) us) (EP X pins σ Q) X.xe s := by
  have hq := h (s.heap.objs.size + 1) s.heap.objs.size (I.hok.fresh (Nat.le_succ _)) (I.hok.fresh (Nat.le_refl _)) (Nat.ne_of_lt (Nat.lt_succ_self _))
  have I2 := Inv.made (C := C) I
  have r2 : Vals (V.ref (s.heap.objs.size + 1) :: (vs ++ dvs)) (Value.ref (s.heap.objs.size + 1) :: (us ++ ds)) := .cons rfl (r.append hd)
  refine wpAny_call (make_map (f := f) I.kIn M.makes M.init (beq_iff_eq.mp M.fn) (codeAny_mono (F.run _ X.stack _ _ ⟨Value.ref (s.heap.objs.size + 1) :: us, []⟩ (Value.ref (s.heap.objs.size + 1) :: (us ++ ds)) _ _ E (hr.make C us []) (I2.env0.make C us []) (hb _ (Value.ref (s.heap.objs.size + 1) :: us) I2.kIn (r2.length.symm.trans (F.len _ _ _ _ hq))) r2 hq) fun q s' hq' => ?_))
  have z := made_end I2 hx hq'
  match q, z with
  | .error _, z => exact z
  | .ok (.ret _), z => exact z
/-! calls as they are written -/
theorem pe_call (F : FnOk X.prog X.w X.K X.mg X.base CX k f fd ps sp) (hr : Room k X.A) (hg : Gl X x) (hm : X.mg x = some (.ref f)) (hk : PySem.W.keepIn X.K (.ref f) = true) (hb : Binds X.K fd ps ds) (hd : Vals dvs ds) (hx : Passes CX X E)
    (ha : PA X (e :: es) t) (hdb : (x == ("__debug__" : Str)) = false := by decide) (he : starEach (e :: es) X.env = (false, eval e X.env) :: starEach es X.env := by rfl) (hpl : (backTo pos (starEach es X.env)).any (·.1) = false := by rfl) : PE X (.Call (.Name x p) (e :: es) [] pos) (tCall sp dvs E t) :=
  ⟨fun pins s σ H _ I h => wpAny_Call_Name_kw (ld_glob I hg hm (PySem.W.callWith_K (h₀ := X.base) I.ok.mod.kin hk (thn (ha.run pos pins s σ H _ I h) fun _ _ ⟨_, _, I1, r, q⟩ => ⟨I1.kIn, run_fn F hr hb hd hx I1 r q⟩) he hpl) hdb)⟩
theorem pe_make (M : Mk X.K C f) (F : FnOk X.prog X.w X.K X.mg X.base CX k f fd ps sp) (hr : Room (k + 1) X.A) (hg : Gl X x) (hm : X.mg x = some (.ref C)) (hb : Binds X.K fd ps ds) (hd : Vals dvs ds) (hx : Passes CX X E)
    (ha : PA X (e :: es) t) (hdb : (x == ("__debug__" : Str)) = false := by decide) (he : starEach (e :: es) X.env = (false, eval e X.env) :: starEach es X.env := by rfl) (hpl : (backTo pos (starEach es X.env)).any (·.1) = false := by rfl) : PE X (.Call (.Name x p) (e :: es) [] pos) (tMake C sp dvs E t) :=
  ⟨fun pins s σ H _ I h => wpAny_Call_Name_kw (ld_glob I hg hm (PySem.W.callWith_K (h₀ := X.base) I.ok.mod.kin M.kp (thn (ha.run pos pins s σ H _ I h) fun _ _ ⟨_, _, I1, r, q⟩ => ⟨I1.kIn, run_make M F hr hb hd hx I1 r q⟩) he hpl) hdb)⟩
end
/-! a def by its body -/
theorem fn_of {CX : CXT} {P : Program} {w : World} {K : PySem.W.Frag} {mg : Str → Option Value} {base : Heap} {k : Nat} {f : Addr} {name qual : Str} {params : Arguments} {body : List Stmt} {scope : Scope} {dV kV doc pm cdv ct oc : Value} {an od : Option Addr} {osl : Array (Option Value)} {N ps : List Str} {sp : Sp}
    (lk : K.lookup f = some ⟨oc, od, .func (PySem.W.fnOf name qual params body scope dV kV doc pm an cdv ct), osl⟩) (hcd : PySem.W.codeIn K cdv qual = true) (S : FnScope N ps scope) (len : ∀ vs H Q E, sp vs H Q E → vs.length = ps.length)
    (hbody : ∀ (A : Around) (outer : List Env) (s : Shared) (H : Hp) (vs : List V) (Q : VK) (E : XK), Room k (A.deeper (envOfC qual scope s.heap.objs.size f cdv)) → sp vs H Q E → ∃ t, PSs (cxOf CX P w K mg base N qual scope f cdv A outer s H E) body t ∧ t { nx := fun _ H' => Q .non H', rt := Q } (start N vs) H) :
    FnOk P w K mg base CX (k + 1) f (PySem.W.fnOf name qual params body scope dV kV doc pm an cdv ct) ps sp := ⟨len, fun A outer s H args us vs Q E hr e0 hb r hsp => by
  have stay : ∀ b o, base.get? b = some o → s.heap.get? b = some o := fun b o e => (e0.bs b o e).1
  have KX : K.In s.heap := e0.mod.kin.keeps stay
  refine codeAny_call_function hr.toRoom.depth (KX _ _ lk) rfl S.co S.gen rfl (PySem.W.codeRec_of KX hcd) (hb _ _ _ _ (wpAny_newFunctionEnv_cells S.kind (fun ⟨n, v⟩ hy => (S.par n (List.of_mem_zip hy).1).imp id fun q => ⟨q, PySem.W.cellsFrom_some _ _ _ (.inl q)⟩) fun env he s1 x => ?_))
  subst he
  refine ⟨(e0.mod.nolimit.keeps stay).keeps x.toInCall.keep, codeAny_func ?_⟩
  obtain ⟨t, ht, hq⟩ := hbody A outer s H vs Q E (hr.deeper _) hsp
  refine wpAny_mono (ht.run [] s1 (start N vs) H _ (inv_start S hr.toRoom.hd e0 (len _ _ _ _ hsp) r x) hq) (fun fl s' hs => ?_) fun _ _ hs => hs
  cases fl with
  | ret u => obtain ⟨v, σ', H', J, rv, q⟩ := hs; exact ⟨v, H', J.os, J.bare, J.base, J.hok, rv, q⟩
  | next => obtain ⟨σ', H', J, q⟩ := hs; exact ⟨V.non, H', J.os, J.bare, J.base, J.hok, rfl, q⟩
  | brk => obtain ⟨_, _, _, q⟩ := hs; exact q.elim
  | cont => obtain ⟨_, _, _, q⟩ := hs; exact q.elim⟩
section
variable {P : Program} {w : World} {K : PySem.W.Frag} {mg : Str → Option Value} {base : Heap} {x qual : Str} {f : Addr} {fd : FuncData} {N ps : List Str} {k : Nat} {sp : Sp}
theorem fun_ok {st : Stmt} (F : Fun K x qual st f fd) (S : FnScope N ps (defScope st)) (len : ∀ vs H Q E, sp vs H Q E → vs.length = ps.length)
    (hbody : ∀ (cdv : Value) (A : Around) (outer : List Env) (s : Shared) (H : Hp) (vs : List V) (Q : VK) (E : XK), Room k (A.deeper (envOfC qual (defScope st) s.heap.objs.size f cdv)) → sp vs H Q E → ∃ t, PSs (cxOf (L2.CX P w) P w K mg base N qual (defScope st) f cdv A outer s H E) (defBody st) t ∧ t { nx := fun _ H' => Q .non H', rt := Q } (start N vs) H) : FnOk P w K mg base (L2.CX P w) (k + 1) f fd ps sp := by
  obtain ⟨oc, od, kV, doc, pm, an, cdv, ct, osl, rfl, lk, hcd⟩ := F.ex
  exact fn_of lk hcd S len (hbody cdv)
theorem funD_ok {params : Arguments} {body : List Stmt} {scope : Scope} {dvs : List V} {kws : List (Str × V)} (F : FunD K x qual params body scope dvs kws f fd) (S : FnScope N ps scope) (len : ∀ vs H Q E, sp vs H Q E → vs.length = ps.length)
    (hbody : ∀ (cdv : Value) (A : Around) (outer : List Env) (s : Shared) (H : Hp) (vs : List V) (Q : VK) (E : XK), Room k (A.deeper (envOfC qual scope s.heap.objs.size f cdv)) → sp vs H Q E → ∃ t, PSs (cxOf (L2.CX P w) P w K mg base N qual scope f cdv A outer s H E) body t ∧ t { nx := fun _ H' => Q .non H', rt := Q } (start N vs) H) : FnOk P w K mg base (L2.CX P w) (k + 1) f fd ps sp := by
  obtain ⟨oc, od, dV, kV, doc, pm, an, cdv, ct, osl, rfl, lk, hcd, _, _⟩ := F.ex
  exact fn_of lk hcd S len (hbody cdv)
end
end SL

set_option Elab.async false
set_option linter.all false
set_option maxRecDepth 100000
set_option maxHeartbeats 4000000
namespace SL
open PySem L2 PySem.Spec PyProof.Rows

section
variable {X : Cx} {pins : List (Addr × Obj)} {σ : L2.St} {H : Hp} {s : Shared} {a C dx : Addr} {fs : List (Str × V)}
theorem inst_of (I : Inv X pins σ H s) (e : H a = some (.ins C dx fs)) : ∃ od, PySem.W.InstAt s.heap a (PySem.W.instObj C dx) C (some od) := by
  obtain ⟨mA, O, _⟩ := ins_get I.hok e
  obtain ⟨od, J, _⟩ := O.look
  exact ⟨od, J⟩
theorem back_of {Q : VK} {u : Value} {s' : Shared} (h : EP X pins σ Q u s') : PySem.W.CmpBack (EP X pins σ Q) u s' := by
  obtain ⟨v, H', I, r, q⟩ := h
  cases v with
  | non => cases (show u = Value.none from r); exact ⟨.non, H', I, rfl, q⟩
  | bl b => cases (show u = Value.bool b from r); exact ⟨.bl b, H', I, rfl, q⟩
  | int i => obtain ⟨t, e⟩ := (show ∃ t, u = Value.int i t from r); subst e; exact ⟨.int i, H', I, ⟨t, rfl⟩, q⟩
  | str x => obtain ⟨t, e⟩ := (show ∃ t, u = Value.str x t from r); subst e; exact ⟨.str x, H', I, ⟨t, rfl⟩, q⟩
  | byt x => obtain ⟨t, e⟩ := (show ∃ t, u = Value.bytes x t from r); subst e; exact ⟨.byt x, H', I, ⟨t, rfl⟩, q⟩
  | flt x => obtain ⟨t, e⟩ := (show ∃ t, u = Value.float x t from r); subst e; exact ⟨.flt x, H', I, ⟨t, rfl⟩, q⟩
  | ref b => cases (show u = Value.ref b from r); exact ⟨.ref b, H', I, rfl, q⟩
  | ty n => cases (show u = Value.type n from r); exact ⟨.ty n, H', I, rfl, q⟩
end

/-- what the class at C must show for an operator of its own -/
structure OwnOp (K : PySem.W.Frag) (C f : Addr) (name : Str) : Prop where
  at_ : PySem.W.findIn K (.ref C) name = some (some (.ref f))
  fn : PySem.W.isFn K (.ref f) = true

section
variable {X : Cx} {CX : CXT} {k : Nat} {C f : Addr} {fd : FuncData} {ps : List Str} {sp : Sp} {E : XK}

end

/-! ### an int on the left of an own operator; own == and != -/
section
open PySem.W
variable {prog : Program} {w : World} {A : Around} {E : Value → Shared → Prop} {s : Shared} {K : Frag} {y C L f f0 dx : Addr} {h₀ : Heap} {m : Str → Option Value} {od : Option Obj}
end

/-! ### own ==, != ; an int == own -/
section
open PySem.W
variable {prog : Program} {w : World} {A : Around} {E : Value → Shared → Prop} {s : Shared} {K : Frag} {x y C L f dx : Addr} {h₀ : Heap} {m : Str → Option Value} {od : Option Obj} {ox : Obj}
theorem check_own {M : Model} {id owner n : String} {rest : List Value} {Q : Unit → Shared → Prop} (hk : builtinKind id = some .slot) (hs : splitId id = some (owner, n)) (ha : argsOk id ⟨.ref x :: rest, []⟩)
    (X : K.In s.heap) (J : InstAt s.heap x ox C od) (hob : subIn K (.ref C) (.type owner) = some true) (hq : Q () s) : wpAny M A (checkBuiltinCall id ⟨.ref x :: rest, []⟩) Q E s := by
  simp only [checkBuiltinCall, hk, hs]
  refine wpAny_bind ?_
  unfold isInstance
  refine wpAny_bind (m := typeOf (.ref x)) (J.type.here ((looks_subIn X hob).here ?_))
  simp only [Bool.not_true, Bool.false_eq_true, if_false]
  cases hsig : Manifest.signature? id with
  | none => exact wpAny_pure hq
  | some sig =>
    simp only [argsOk, hsig] at ha
    have h2 : Bind.checkArgs id sig ⟨.ref x :: rest, []⟩ = pure () := ha
    show wpAny M A (Bind.checkArgs id sig ⟨.ref x :: rest, []⟩) Q E _
    rw [h2]; exact wpAny_pure hq
theorem ifBound_B {M : Model} {name : Str} {T id : String} {args : List Value} {Q : Option Value → Shared → Prop} (X : K.In s.heap) (I : InstAt s.heap x ox C od) (hs : findIn K (.ref C) name = some (some (.builtin id))) (S : Slot T name id)
    (h : wpAny M A (call (.builtin id) (.ref x :: args)) (fun v => Q (some v)) E s) : wpAny M A (callSpecialIfBound? (.ref x) name args) Q E s := by
  simp only [callSpecialIfBound?, bindSpecialIfBound?]
  refine wpAny_holding (wpAny_bind (wpAny_bind (wpAny_bind (I.type.here ((looks_findIn X hs).here ?_)))))
  simp only [S.bind]
  refine wpAny_bind (wpAny_askSetting (wpAny_ite ?_))
  have fin : wpAny M A (call (.builtin id) ([.ref x] ++ args) >>= fun v => pure (some v)) Q E s := wpAny_bind (wpAny_mono h (fun v s' h' => wpAny_pure h') fun _ _ h' => h')
  split
  · exact wpAny_bind (wpAny_pure (wpAny_pure fin))
  · exact wpAny_tryCatch (wpAny_bind (wpAny_pure (wpAny_pure fin)))
theorem objNe_own {b : Value} (X : K.In s.heap) (I : InstAt s.heap x ox C od) (hs : findIn K (.ref C) "__eq__" = some (some (.ref f))) (hf : isFn K (.ref f) = true) (hu : A.units < cLine) {Q : Fin → Shared → Prop}
    (hcall : wpAny (model prog w) A (call (.ref f) [.ref x, b]) (fun v s' => ∃ k, v = .bool k ∧ Q (.done (.ret (.bool (!k)))) s') E s) :
    wpAny (model prog w) A (Builtin.«object.__ne__» ⟨[.ref x, b], []⟩) Q E s := by
  unfold Builtin.«object.__ne__»
  repeat (first
    | with_reducible refine wpAny_cRoomFor hu ?_
    | (refine wpAny_bind (m := callSpecialIfBound? (.ref x) (Str.ofString "__eq__") [b])
        (ifBound_K X I hs hf (wpAny_mono hcall (fun r s' hr => by
          obtain ⟨b, rfl, hq⟩ := hr
          repeat (first | exact hq | exact wpAny_pure hq | exact wpAny_truthy_bool hq | (refine wpAny_bind (m := truthy (.bool _)) (wpAny_truthy_bool ?_)) | wp_step)) fun _ _ e => e)))
    | wp_step)
theorem cmp_ne_own {b tb : Value} {Q : Value → Shared → Prop} (hu : A.units + 1 < cLine) (X : K.In s.heap) (I : InstAt s.heap x ox C od) (hb : Looks (model prog w) s.heap (typeOf b) tb) (hn : notFirst K C tb = true)
    (hne : findIn K (.ref C) "__ne__" = some (some (.builtin "object.__ne__"))) (hob : subIn K (.ref C) (.type "object") = some true) (hs : findIn K (.ref C) "__eq__" = some (some (.ref f))) (hf : isFn K (.ref f) = true)
    (h : wpAny (model prog w) A.in1 (call (.ref f) [.ref x, b]) (fun v s' => ∃ k, v = .bool k ∧ Q (.bool (!k)) s') E s) : wpAny (model prog w) A (richCompare .NotEq (.ref x) b) Q E s := by
  have one : wpAny (model prog w) A (tryCompare (.ref x) "__ne__" b) (fun r s' => ∃ v, r = some v ∧ Q v s') E s := by
    unfold tryCompare
    refine wpAny_bind (ifBound_B X I hne F.cmp_object.ne (wpAny_call (codeAny_call_builtin F.cmp_object.ne.plain F.cmpEntry_ne (check_own F.cmpKind_ne F.cmpSplit_ne (F.cmpArgs_ne _ _) X I hob ?_))))
    refine objNe_own (A := A.in1) X I hs hf hu (wpAny_mono h (fun v s' hv => ?_) fun _ _ e => e)
    obtain ⟨k, rfl, hq⟩ := hv
    exact ⟨k, rfl, wpAny_pure ⟨_, rfl, hq⟩⟩
  unfold richCompare
  simp only [oneThing_ref]
  refine wpAny_holding (wpAny_bind (wpAny_cRoomFor (Nat.lt_of_succ_lt hu) ?_))
  refine wpAny_bind (I.type.here (wpAny_bind (hb.here ?_)))
  split
  · rename_i q
    have e : subIn K tb (.ref C) = some false := by
      rcases Bool.or_eq_true_iff.mp hn with e | e
      · rw [beq_iff_eq.mp e] at q; simp at q
      · exact beq_iff_eq.mp e
    refine wpAny_bind ((looks_subIn X e).here ?_)
    simp only [Bool.false_eq_true, if_false]
    refine wpAny_bind (wpAny_mono one (fun r s' z => ?_) fun _ _ e => e)
    obtain ⟨v, rfl, hq⟩ := z
    exact wpAny_pure hq
  · refine wpAny_bind (wpAny_pure ?_)
    simp only [Bool.false_eq_true, if_false]
    refine wpAny_bind (wpAny_mono one (fun r s' z => ?_) fun _ _ e => e)
    obtain ⟨v, rfl, hq⟩ := z
    exact wpAny_pure hq
end

/-! ### the same over the layer -/
section
variable {X : Cx} {CX : CXT} {k : Nat} {C f f0 : Addr} {fd : FuncData} {ps : List Str} {sp : Sp} {E : XK}
/-- a def called one C unit deeper (out of a built-in) -/
theorem run_fn1 {pins : List (Addr × Obj)} {σ : L2.St} {H : Hp} {s : Shared} {Q : VK} {us : List Value} {vs : List V} {dvs : List V} {ds : List Value} (F : FnOk X.prog X.w X.K X.mg X.base CX k f fd ps sp) (hr : Room (k + 1) X.A) (hb : Binds X.K fd ps ds) (hd : Vals dvs ds) (hx : Passes CX X E)
    (I : Inv X pins σ H s) (r : Vals vs us) (h : sp (vs ++ dvs) H Q E) : wpAny (model X.prog X.w) X.A.in1 (call (.ref f) us) (EP X pins σ Q) X.xe s := by
  have r2 : Vals (vs ++ dvs) (us ++ ds) := r.append hd
  have hl : (us ++ ds).length = ps.length := by rw [← r2.length]; exact F.len _ _ _ _ h
  refine wpAny_call (codeAny_mono (F.run X.A.in1 X.stack s H ⟨us, []⟩ (us ++ ds) (vs ++ dvs) Q E hr.in1 I.env0.in1 (hb s us I.kIn hl) r2 h) fun r s' hq => ?_)
  cases r with
  | error e => exact hx pins σ H s e s' I hq
  | ok fl =>
    cases fl with
    | ret u => exact I.after hq
    | next => exact False.elim hq
    | brk => exact False.elim hq
    | cont => exact False.elim hq

/-- own == y, y of any known type -/
def rEqOwn (K : PySem.W.Frag) (C : Addr) (sp : Sp) (E : XK) : R2 := fun x y H Q => ∃ a dx fs t, x = .ref a ∧ H a = some (.ins C dx fs) ∧ TyX K H y t ∧ PySem.W.notFirst K C t = true ∧ sp [x, y] H Q E
theorem op_eqOwn (o : OwnOp X.K C f "__eq__") (F : FnOk X.prog X.w X.K X.mg X.base CX k f fd ps sp) (hr : Room k X.A) (hb : Binds X.K fd ps []) (hx : Passes CX X E) : OpR X (compareOp .Eq) (rEqOwn X.K C sp E) := by
  intro pins s σ H x y v u Q I rx ry h
  obtain ⟨a, dx, fs, t, rfl, ha, ty, nf, h⟩ := h
  obtain rfl : v = Value.ref a := rx
  obtain ⟨od, J⟩ := inst_of I ha
  obtain ⟨m, Fr⟩ := I.fr
  obtain ⟨P, Z, p, _⟩ := kit_of I ry ty
  unfold compareOp
  exact PySem.W.cmp_K hr.units0 Fr I.mod.kin J (Z.ty _ _ I.kIn p) nf o.at_ o.fn (wpAny_mono (run_fn (us := [.ref a, u]) (vs := [.ref a, y]) F hr hb .nil hx I (.cons rfl (.cons ry .nil)) h) (fun _ _ q => back_of q) fun _ _ e => e)
/-- own != y by the own ==, which answers a truth -/
def rNeOwn (K : PySem.W.Frag) (C : Addr) (sp : Sp) (E : XK) : R2 := fun x y H Q => ∃ a dx fs t, x = .ref a ∧ H a = some (.ins C dx fs) ∧ TyX K H y t ∧ PySem.W.notFirst K C t = true ∧ sp [x, y] H (fun v H' => ∃ b, v = .bl b ∧ Q (.bl (!b)) H') E
theorem op_neOwn (o : OwnOp X.K C f "__eq__") (hne : PySem.W.findIn X.K (.ref C) "__ne__" = some (some (.builtin "object.__ne__"))) (hob : PySem.W.subIn X.K (.ref C) (.type "object") = some true)
    (F : FnOk X.prog X.w X.K X.mg X.base CX k f fd ps sp) (hr : Room (k + 1) X.A) (hb : Binds X.K fd ps []) (hx : Passes CX X E) : OpR X (compareOp .NotEq) (rNeOwn X.K C sp E) := by
  intro pins s σ H x y v u Q I rx ry h
  obtain ⟨a, dx, fs, t, rfl, ha, ty, nf, h⟩ := h
  obtain rfl : v = Value.ref a := rx
  obtain ⟨od, J⟩ := inst_of I ha
  obtain ⟨P, Z, p, _⟩ := kit_of I ry ty
  unfold compareOp
  refine cmp_ne_own (hu_of hr.toRoom) I.kIn J (Z.ty _ _ I.kIn p) nf hne hob o.at_ o.fn (wpAny_mono (run_fn1 (us := [.ref a, u]) (vs := [.ref a, y]) F hr hb .nil hx I (.cons rfl (.cons ry .nil)) h) (fun z s' q => ?_) fun _ _ e => e)
  obtain ⟨v, H', I', r, b, rfl, q⟩ := q
  obtain rfl : z = Value.bool b := r
  exact ⟨b, rfl, .bl (!b), H', I', rfl, q⟩
/-- // by any divisor but 0, below 2 ^ 9000 in size -/
def CDivX (_ j : Int) : Prop := j ≠ 0 ∧ j.natAbs.log2 < 9000
theorem op_fdivX : OpR X (binaryOp .FloorDiv) (rI CDivX fun i j => .int (i.fdiv j)) := opI fun i j _ _ _ _ _ hc q => floordiv_int hc.1 q (.inl (PyProof.noPylong_of_log2 hc.2))
end

/-! ### o.m(.., k = v, ..) -/
def tMethN (C : Addr) (m : Str) (n mk : Nat) (sp : Sp) (gV : List V → List V → List V) (E : XK) (ta : TE) (t tk : TA) : TE := fun σ H Q => ta σ H fun x H1 => ∃ a dx fs, x = .ref a ∧ H1 a = some (.ins C dx fs) ∧ fs.lookup m = none ∧
  t σ H1 fun vs H2 => tk σ H2 fun zs H3 => vs.length = n ∧ zs.length = mk ∧ sp (gV (x :: vs) zs) H3 Q E
section
variable {X : Cx} {CX : CXT} {k n : Nat} {f C : Addr} {fd : FuncData} {ps ks : List Str} {sp : Sp} {E : XK} {m : Str} {p pos apos : Pos} {e o : Expr} {es : List Expr} {kws : List Keyword} {ta : TE} {t tk : TA} {g : List Value → List Value → List Value} {gV : List V → List V → List V}
end
end SL

set_option Elab.async false
set_option linter.all false
set_option maxRecDepth 100000
set_option maxHeartbeats 4000000
namespace SL
open PySem L2 PySem.Spec PyProof.Rows

/-! ### steps of a reading: each lemma is a rule from the goal's head -/
section go
variable {K : PySem.W.Frag} {D : Ends} {σ : L2.St} {H : Hp} {Q : VK} {te ta tb tv : TE} {t t1 t2 : TS} {tt uu : TT} {tA : TA} {tr : TA} {v x y : V} {i j : Nat} {r : R2} {g : TG} {E : XK}
theorem go_seq (h : t1 { D with nx := t2 D } σ H) : tSeq t1 t2 D σ H := h
theorem go_next (h : D.nx σ H) : tNext D σ H := h
theorem go_asg (h : te σ H fun x H1 => g x σ H1 D.nx) : tAsg te g D σ H := h
theorem go_gname {Q : L2.St → Hp → Prop} (h : Q (σ.set i (some v)) H) : gName i v σ H Q := h
theorem go_ret (h : te σ H D.rt) : tRet te D σ H := h
theorem go_drop (h : te σ H fun _ H1 => D.nx σ H1) : tDrop te D σ H := h
theorem go_ifs {c : TT} (h : c σ H fun b H1 => if b = true then t1 D σ H1 else t2 D σ H1) : tIfS c t1 t2 D σ H := h
theorem go_var (e : σ[i]? = some (some v)) (h : Q v H) : tVar i σ H Q := ⟨v, e, h⟩
theorem go_c (h : Q v H) : tC v σ H Q := h
theorem go_op (h : ta σ H fun x H1 => tb σ H1 fun y H2 => r x y H2 Q) : tOp r ta tb σ H Q := h
theorem go_un {r : V → Hp → VK → Prop} (h : ta σ H fun x H1 => r x H1 Q) : tUn r ta σ H Q := h
theorem go_I0 {g : Int → Int → V} {i j : Int} (h : Q (g i j) H) : rI0 g (.int i) (.int j) H Q := ⟨i, j, rfl, rfl, h⟩
theorem go_U {g : Int → V} {i : Int} (h : Q (g i) H) : rU g (.int i) H Q := ⟨i, rfl, h⟩
theorem go_test {Q : Bool → Hp → Prop} (h : te σ H fun x H' => ∃ k, x = .bl k ∧ Q k H') : tTest te σ H Q := h
theorem go_tb {Q : Bool → Hp → Prop} (h : te σ H fun x H' => ∃ k, x = .bl k ∧ Q k H') : tB te σ H Q := h
theorem go_bl {b : Bool} {R : Bool → Prop} (h : R b) : ∃ k, V.bl b = .bl k ∧ R k := ⟨b, rfl, h⟩
theorem go_eqI {i j : Int} (h : Q (.bl (decide (i = j))) H) : rEq (.int i) (.int j) H Q := by
  refine ⟨rfl, ?_⟩
  rw [show decide (V.int i = V.int j) = decide (i = j) by rw [dec_int]; by_cases e : i = j <;> simp [e]]
  exact h
theorem go_neI {i j : Int} (h : Q (.bl (!decide (i = j))) H) : rNe (.int i) (.int j) H Q := by
  refine ⟨rfl, ?_⟩
  rw [show decide (V.int i = V.int j) = decide (i = j) by rw [dec_int]; by_cases e : i = j <;> simp [e]]
  exact h
theorem go_eqB {i j : Bool} (h : Q (.bl (decide (i = j))) H) : rEq (.bl i) (.bl j) H Q := by
  refine ⟨rfl, ?_⟩
  rw [show decide (V.bl i = V.bl j) = decide (i = j) by rw [dec_bl]; cases i <;> cases j <;> rfl]
  exact h
theorem go_neB {i j : Bool} (h : Q (.bl (!decide (i = j))) H) : rNe (.bl i) (.bl j) H Q := by
  refine ⟨rfl, ?_⟩
  rw [show decide (V.bl i = V.bl j) = decide (i = j) by rw [dec_bl]; cases i <;> cases j <;> rfl]
  exact h
theorem go_eqS {i j : Str} (h : Q (.bl (decide (i = j))) H) : rEq (.str i) (.str j) H Q := by
  refine ⟨rfl, ?_⟩
  rw [show decide (V.str i = V.str j) = decide (i = j) by by_cases e : i = j <;> simp [e]]
  exact h
theorem go_neS {i j : Str} (h : Q (.bl (!decide (i = j))) H) : rNe (.str i) (.str j) H Q := by
  refine ⟨rfl, ?_⟩
  rw [show decide (V.str i = V.str j) = decide (i = j) by by_cases e : i = j <;> simp [e]]
  exact h
theorem go_and {Q : Bool → Hp → Prop} (h : tt σ H fun c H1 => if c = true then uu σ H1 Q else Q false H1) : tAnd tt uu σ H Q := h
theorem go_or {Q : Bool → Hp → Prop} (h : tt σ H fun c H1 => if c = true then Q true H1 else uu σ H1 Q) : tOr tt uu σ H Q := h
theorem go_not {Q : Bool → Hp → Prop} (h : tt σ H fun c H1 => Q (!c) H1) : tNot tt σ H Q := h
theorem go_andV (h : ta σ H fun x H1 => ∃ c, x = .bl c ∧ if c = true then tb σ H1 Q else Q (.bl false) H1) : tAndV ta tb σ H Q := h
theorem go_orV (h : ta σ H fun x H1 => ∃ c, x = .bl c ∧ if c = true then Q (.bl true) H1 else tb σ H1 Q) : tOrV ta tb σ H Q := h
theorem go_notV (h : ta σ H fun x H1 => ∃ c, x = .bl c ∧ Q (.bl (!c)) H1) : tNotV ta σ H Q := h
theorem go_if (h : tt σ H fun c H1 => if c = true then ta σ H1 Q else tb σ H1 Q) : tIf tt ta tb σ H Q := h
theorem go_T {A B : Prop} (h : A) : if true = true then A else B := iteT h
theorem go_F {A B : Prop} (h : B) : if false = true then A else B := iteF h
theorem go_nT {A B : Prop} (h : B) : if (!true) = true then A else B := iteF h
theorem go_nF {A B : Prop} (h : A) : if (!false) = true then A else B := iteT h
theorem go_nil {Q : List V → Hp → Prop} (h : Q [] H) : tNil σ H Q := h
theorem go_cons {Q : List V → Hp → Prop} (h : te σ H fun x H1 => tr σ H1 fun xs H2 => Q (x :: xs) H2) : tCons te tr σ H Q := h
theorem go_call {sp : Sp} {dvs : List V} (h : tA σ H fun vs H1 => sp (vs ++ dvs) H1 Q E) : tCall sp dvs E tA σ H Q := h
theorem go_cb {r : List V → Hp → VK → Prop} (h : tA σ H fun vs H1 => r vs H1 Q) : tCB r tA σ H Q := h
theorem go_par {i j : Nat} (h : tA σ H fun vs H1 => ∃ v w, vs = [v, w] ∧ D.nx ((σ.set i (some v)).set j (some w)) H1) : tPar i j tA D σ H := h
theorem go_pair {a b : V} {P : V → V → Prop} (h : P a b) : ∃ v w, [a, b] = [v, w] ∧ P v w := ⟨a, b, rfl, h⟩
end go

/-! ### heaps that grow -/
theorem Same.at {H H' : Hp} {a : Addr} {o : HO} (e : L2.Same H H') (h : H a = some o) : H' a = some o := e a o h
theorem Same.new {H : Hp} {p : Addr} {o : HO} (h : H p = none) : L2.Same H (upd H p o) := fun a u e => by rw [upd_ne (ne_of_none e h)]; exact e
theorem Same.new' {H H' : Hp} {p : Addr} {o : HO} (h : H p = none) (q : upd H p o = H') : L2.Same H H' := q ▸ Same.new h
theorem at_new {H H' : Hp} {p : Addr} {o : HO} (q : upd H p o = H') : H' p = some o := q ▸ upd_same
theorem szL {n : Nat} (h : n ≤ 1000) : n ≤ sizeLine := Nat.le_of_lt (small1000 h)
section go2
variable {K : PySem.W.Frag} {D : Ends} {σ : L2.St} {H : Hp} {Q : VK} {te ta tb tv : TE} {tA : TA} {v x y : V} {i j : Nat} {E : XK}
theorem go_tup (h : tA σ H fun xs H1 => xs.length ≤ sizeLine ∧ ∀ p, H1 p = none → Q (.ref p) (upd H1 p (.tup xs))) : tTup tA σ H Q := h
theorem go_lst (h : tA σ H fun xs H1 => xs.length ≤ sizeLine ∧ ∀ p, H1 p = none → Q (.ref p) (upd H1 p (.lst xs))) : tLst tA σ H Q := h
theorem go_for {wi : TI} {g : TG} {tb : TS} (h : wi σ H fun J H1 => ∃ W : Nat → Nat → L2.St → Hp → Prop, (∃ m, W 0 m σ H1) ∧ ∀ i m σ H, W i m σ H →
  (J.stop i H ∧ D.nx σ H) ∨ (J.go i H ∧ ∃ N : L2.St → Hp → Prop, (∀ σ' H', N σ' H' → ∃ m', m' < m ∧ W (i + 1) m' σ' H') ∧ ∀ x H', J.yld i H x H' → g x σ H' fun σ2 H2 => tb { D with nx := N, ct := N, bk := D.nx } σ2 H2)) : tFor wi g tb D σ H := h
theorem go_iList {tl : TE} {R : It → Hp → Prop} (h : tl σ H fun x H1 => ∃ a, x = .ref a ∧ (∃ xs, SqL K H1 a xs) ∧ R (Itl K a) H1) : iList K tl σ H R := h
theorem go_iTup {tl : TE} {R : It → Hp → Prop} (h : tl σ H fun x H1 => ∃ a, x = .ref a ∧ (∃ xs, SqT K H1 a xs) ∧ R (Itt K a) H1) : iTup K tl σ H R := h
theorem go_iRng1 {R : It → Hp → Prop} (h : tA σ H fun vs H1 => ∃ j : Int, vs = [.int j] ∧ -(2 ^ 62) ≤ j ∧ j < 2 ^ 62 ∧ R (Itr 0 j.toNat) H1) : iRng1 tA σ H R := h
theorem go_iRng2 {R : It → Hp → Prop} (h : tA σ H fun vs H1 => ∃ i j : Int, vs = [.int i, .int j] ∧ (-(2 ^ 62) ≤ i ∧ i < 2 ^ 62 ∧ -(2 ^ 62) ≤ j ∧ j < 2 ^ 62) ∧ R (Itr i (j - i).toNat) H1) : iRng2 tA σ H R := h
theorem go_lc {wi : TI} {g : TG} {tt : TT} {vs : List Nat} (h : wi σ H fun J H1 => ∀ D, H1 D = none → ∃ W : Nat → Nat → Hp → Prop, (∃ m, W 0 m (upd H1 D (.lst []))) ∧ ∀ i m H, W i m H →
  (J.stop i H ∧ Q (.ref D) H) ∨ (J.go i H ∧ ∃ Nx : Hp → Prop, (∀ H', Nx H' → ∃ m', m' < m ∧ W (i + 1) m' H') ∧ ∀ x H', J.yld i H x H' → g x (wipe σ vs) H' fun σ2 H2 => wipe σ2 vs = wipe σ vs ∧ tt σ2 H2 fun b H3 =>
    if b = true then te σ2 H3 fun y H4 => ∃ acc, H4 D = some (.lst acc) ∧ acc.length < sizeLine ∧ Nx (upd H4 D (.lst (acc ++ [y]))) else Nx H3)) : tLc wi g tt te vs σ H Q := h
theorem go_yes {Q : Bool → Hp → Prop} (h : Q true H) : tYes σ H Q := h
/-- o.f of a class that is told -/
def tFldC (C : Addr) (ta : TE) (f : Str) : TE := fun σ H Q => ta σ H fun x H1 => ∃ a dx fs v, x = .ref a ∧ H1 a = some (.ins C dx fs) ∧ fs.lookup f = some v ∧ Q v H1
/-- o.f = e of a class that is told -/
def sFldC (C : Addr) (ta tv : TE) (f : Str) : TS := fun D σ H => tv σ H fun y H1 => ta σ H1 fun x H2 => ∃ a dx fs, x = .ref a ∧ H2 a = some (.ins C dx fs) ∧ fs.length < 1000 ∧ D.nx σ (upd H2 a (.ins C dx (putF f y fs)))
theorem go_fldC {C : Addr} {f : Str} (h : ta σ H fun x H1 => ∃ a dx fs v, x = .ref a ∧ H1 a = some (.ins C dx fs) ∧ fs.lookup f = some v ∧ Q v H1) : tFldC C ta f σ H Q := h
theorem go_sfld {C : Addr} {f : Str} (h : tv σ H fun y H1 => ta σ H1 fun x H2 => ∃ a dx fs, x = .ref a ∧ H2 a = some (.ins C dx fs) ∧ fs.length < 1000 ∧ D.nx σ (upd H2 a (.ins C dx (putF f y fs)))) : sFldC C ta tv f D σ H := h
theorem go_sub {to ti : TE} {t : TSet} {Q : L2.St → Hp → Prop} (h : to σ H fun o H1 => ti σ H1 fun i H2 => t o i v H2 fun H3 => Q σ H3) : gSub to ti t v σ H Q := h
theorem go_sl {r : V → Option Int → Option Int → Hp → VK → Prop} {tl th : TO} (h : te σ H fun x H1 => tl σ H1 fun l H2 => th σ H2 fun u H3 => r x l u H3 Q) : tSl r te tl th σ H Q := h
theorem go_noPart {Q : Option Int → Hp → Prop} (h : Q none H) : tNoPart σ H Q := h
theorem go_part {Q : Option Int → Hp → Prop} (h : te σ H fun x H1 => ∃ i, x = .int i ∧ Q (some i) H1) : tPart te σ H Q := h
theorem go_partE {i : Int} {R : Int → Prop} (h : R i) : ∃ j, V.int i = .int j ∧ R j := ⟨i, rfl, h⟩
def rAbs : List V → Hp → VK → Prop := fun xs H Q => ∃ i, xs = [.int i] ∧ Q (.int (if i < 0 then -i else i)) H
def rMax2 : List V → Hp → VK → Prop := fun xs H Q => ∃ i j, xs = [.int i, .int j] ∧ Q (.int (if j > i then j else i)) H
def rMin2 : List V → Hp → VK → Prop := fun xs H Q => ∃ i j, xs = [.int i, .int j] ∧ Q (.int (if j < i then j else i)) H
def rInt1 : List V → Hp → VK → Prop := fun xs H Q => (∃ i, xs = [.int i] ∧ Q (.int i) H) ∨ ∃ k, xs = [.bl k] ∧ Q (.int (if k then 1 else 0)) H
theorem go_abs {i : Int} (h : Q (.int (if i < 0 then -i else i)) H) : rAbs [.int i] H Q := ⟨i, rfl, h⟩
theorem go_max2 {i j : Int} (h : Q (.int (if j > i then j else i)) H) : rMax2 [.int i, .int j] H Q := ⟨i, j, rfl, h⟩
theorem go_min2 {i j : Int} (h : Q (.int (if j < i then j else i)) H) : rMin2 [.int i, .int j] H Q := ⟨i, j, rfl, h⟩
theorem go_int {i : Int} (h : Q (.int i) H) : rInt1 [.int i] H Q := .inl ⟨i, rfl, h⟩
theorem go_intB {k : Bool} (h : Q (.int (if k then 1 else 0)) H) : rInt1 [.bl k] H Q := .inr ⟨k, rfl, h⟩
theorem go_bm {T : String} {r : V → List V → Hp → VK → Prop} (h : ta σ H fun x H1 => tyV K T x H1 ∧ tA σ H1 fun xs H2 => r x xs H2 Q) : tBM K T r ta tA σ H Q := h
theorem go_meth {C : Addr} {m : Str} {sp : Sp} {dvs : List V} (h : ta σ H fun x H1 => ∃ a dx fs, x = .ref a ∧ H1 a = some (.ins C dx fs) ∧ fs.lookup m = none ∧ tA σ H1 fun vs H2 => sp (x :: (vs ++ dvs)) H2 Q E) : tMeth C m sp dvs E ta tA σ H Q := h
theorem go_methN {C : Addr} {m : Str} {n mk : Nat} {sp : Sp} {gV : List V → List V → List V} {tk : TA} (h : ta σ H fun x H1 => ∃ a dx fs, x = .ref a ∧ H1 a = some (.ins C dx fs) ∧ fs.lookup m = none ∧ tA σ H1 fun vs H2 => tk σ H2 fun zs H3 => vs.length = n ∧ zs.length = mk ∧ sp (gV (x :: vs) zs) H3 Q E) : tMethN C m n mk sp gV E ta tA tk σ H Q := h
theorem go_make {C : Addr} {sp : Sp} {dvs : List V} (h : tA σ H fun vs H1 => ∀ x dx, H1 x = none → H1 dx = none → dx ≠ x → sp (.ref x :: (vs ++ dvs)) (upd (upd H1 dx (.own x)) x (.ins C dx [])) (fun v H2 => v = .non ∧ Q (.ref x) H2) E) : tMake C sp dvs E tA σ H Q := h
theorem go_makeK {C : Addr} {n m : Nat} {sp : Sp} {gV : List V → List V → List V} {tk : TA} (h : tA σ H fun vs H1 => tk σ H1 fun zs H2 => vs.length = n ∧ zs.length = m ∧ ∀ x dx, H2 x = none → H2 dx = none → dx ≠ x → sp (gV (.ref x :: vs) zs) (upd (upd H2 dx (.own x)) x (.ins C dx [])) (fun v H3 => v = .non ∧ Q (.ref x) H3) E) : tMakeK C n m sp gV E tA tk σ H Q := h
end go2

/-! ### keywords and defaults -/
section
variable {K : PySem.W.Frag} {x qual : Str} {st : Stmt} {f : Addr} {fd : FuncData} {ps : List Str}
theorem Fun_kb (F : Fun K x qual st f fd) (n : Nat) (ks : List Str) (g : {α : Type} → List α → List α → List α) (hrel : ∀ {vs zs : List V} {us ws : List Value}, Vals vs us → Vals zs ws → Vals (g vs zs) (g us ws))
    (h : ∀ (kV doc pm : Value) (an : Option Addr) (cdv ct : Value) (us ws : List Value), us.length = n → ws.length = ks.length → bindArgs (PySem.W.fnOf x qual (defArgs st) (defBody st) (defScope st) .none kV doc pm an cdv ct) ⟨us, ks.zip ws⟩ = pure (ps.zip (g us ws))) :
    ∃ g', KBn K fd ps n ks g' (fun vs zs => g vs zs) := by
  obtain ⟨oc, od, kV, doc, pm, an, cdv, ct, osl, rfl, lk, hcd⟩ := F.ex
  exact ⟨fun us ws => g us ws, ⟨fun s us ws _ l1 l2 => .of_eq (h kV doc pm an cdv ct us ws l1 l2), fun r1 r2 => hrel r1 r2⟩⟩
end
section
variable {K : PySem.W.Frag} {x qual : Str} {params : Arguments} {body : List Stmt} {scope : Scope} {dvs : List V} {f : Addr} {fd : FuncData} {ps : List Str}
theorem FunD_all (F : FunD K x qual params body scope dvs [] f fd) (hd : dvs ≠ [])
    (h : ∀ (T : Addr) (kV doc pm : Value) (an : Option Addr) (cdv ct : Value) (us its : List Value), us.length = ps.length → its.length = dvs.length →
      ∃ k, bindArgs (PySem.W.fnOf x qual params body scope (.ref T) kV doc pm an cdv ct) ⟨us, []⟩ = seqItems? (.ref T) >>= k ∧ k (some its.toArray) = pure (ps.zip us)) : Binds K fd ps [] := by
  obtain ⟨ds, h1, h2⟩ := F.binds1 (ps := ps) ps.length dvs.length hd (by omega) fun T kV doc pm an cdv ct us its l1 l2 => by
    obtain ⟨k, e1, e2⟩ := h T kV doc pm an cdv ct us its l1 l2
    refine ⟨k, e1, ?_⟩
    rw [← l2, List.drop_length, List.append_nil]
    exact e2
  rw [List.drop_length] at h1
  cases h1
  exact h2
end
end SL

set_option Elab.async false
set_option linter.all false
set_option maxRecDepth 100000
set_option maxHeartbeats 4000000
namespace SL
open PySem L2 PySem.Spec PyProof.Rows

/-! ### str(own), str(int), str(text) -/
section
variable {X : Cx} {CX : CXT} {k : Nat} {f C : Addr} {fd : FuncData} {ps : List Str} {sp : Sp} {E : XK}
/-- a def called two C units deeper (out of a type's call) -/
theorem run_fn2 {pins : List (Addr × Obj)} {σ : L2.St} {H : Hp} {s : Shared} {Q : VK} {us : List Value} {vs : List V} {dvs : List V} {ds : List Value} (F : FnOk X.prog X.w X.K X.mg X.base CX k f fd ps sp) (hr : Room (k + 2) X.A) (hb : Binds X.K fd ps ds) (hd : Vals dvs ds) (hx : Passes CX X E)
    (I : Inv X pins σ H s) (r : Vals vs us) (h : sp (vs ++ dvs) H Q E) : wpAny (model X.prog X.w) X.A.in1.in1 (call (.ref f) us) (EP X pins σ Q) X.xe s := by
  have r2 : Vals (vs ++ dvs) (us ++ ds) := r.append hd
  have hl : (us ++ ds).length = ps.length := by rw [← r2.length]; exact F.len _ _ _ _ h
  refine wpAny_call (codeAny_mono (F.run X.A.in1.in1 X.stack s H ⟨us, []⟩ (us ++ ds) (vs ++ dvs) Q E hr.in1.in1 I.env0.in1.in1 (hb s us I.kIn hl) r2 h) fun r s' hq => ?_)
  cases r with
  | error e => exact hx pins σ H s e s' I hq
  | ok fl =>
    cases fl with
    | ret u => exact I.after hq
    | next => exact False.elim hq
    | brk => exact False.elim hq
    | cont => exact False.elim hq
def rStrOwn (C : Addr) (sp : Sp) (E : XK) : List V → Hp → VK → Prop := fun xs H Q => ∃ a dx fs, xs = [.ref a] ∧ H a = some (.ins C dx fs) ∧ sp [.ref a] H (fun v H' => ∃ z, v = .str z ∧ Q v H') E
theorem call_strOwn (o : OwnOp X.K C f "__str__") (F : FnOk X.prog X.w X.K X.mg X.base CX k f fd ps sp) (hr : Room (k + 2) X.A) (hb : Binds X.K fd ps []) (hx : Passes CX X E) : CallR X (.type "str") (rStrOwn C sp E) := by
  intro pins s σ H xs us Q I r h
  obtain ⟨a, dx, fs, rfl, ha, h⟩ := h
  obtain ⟨u, rfl, rfl⟩ := vals1 r
  obtain ⟨od, J⟩ := inst_of I ha
  refine PySem.W.kso_call hr.in1.in1.units0 I.kIn J o.at_ o.fn (wpAny_mono (run_fn2 (us := [.ref a]) (vs := [.ref a]) F hr hb .nil hx I (.cons rfl .nil) h) (fun v s' q => ?_) fun _ _ e => e)
  obtain ⟨x, H', I', rx, z, rfl, q⟩ := q
  obtain ⟨t, rfl⟩ := rx
  exact ⟨.str z, H', I', ⟨t, rfl⟩, q⟩
def rStrS : List V → Hp → VK → Prop := fun xs H Q => ∃ a, xs = [.str a] ∧ Q (.str a) H
theorem call_strSX : CallR X (.type "str") rStrS := SkE.call_str_str
theorem op_addSt : OpR X (binaryOp .Add) rAddS := op_add_str
/-! ### comparisons of texts -/
def rLtS : R2 := fun x y H Q => ∃ i j, x = .str i ∧ y = .str j ∧ Q (.bl (decide (i.cps.toList < j.cps.toList))) H
def rLeS : R2 := fun x y H Q => ∃ i j, x = .str i ∧ y = .str j ∧ Q (.bl (!decide (j.cps.toList < i.cps.toList))) H
def rGtS : R2 := fun x y H Q => ∃ i j, x = .str i ∧ y = .str j ∧ Q (.bl (decide (j.cps.toList < i.cps.toList))) H
def rGeS : R2 := fun x y H Q => ∃ i j, x = .str i ∧ y = .str j ∧ Q (.bl (!decide (i.cps.toList < j.cps.toList))) H
theorem op_ltS : OpR X (compareOp .Lt) rLtS := op_lt_str
theorem op_gtS : OpR X (compareOp .Gt) rGtS := op_gt_str
theorem op_geS : OpR X (compareOp .GtE) rGeS := op_ge_str
/-! ### texts made of parts -/
def tJ (ts : List TE) : TE := fun σ H Q => tJs ts Str.empty σ H fun out H1 => Q (.str out) H1
/-! ### tuple(..) -/
theorem _root_.L2.Room.units1 {A : Around} (r : L2.Room k A) : A.units + 1 < cLine := by have := r.un; omega
end

/-! ### steps -/
section
variable {K : PySem.W.Frag} {D : Ends} {σ : L2.St} {H : Hp} {Q : VK} {te ta tb tc tv to : TE} {tA : TA} {v x y : V} {i j : Nat} {E : XK}
theorem go_strS {z : Str} (h : Q (.str z) H) : rStrS [.str z] H Q := ⟨z, rfl, h⟩
theorem go_ltS {z z' : Str} (h : Q (.bl (decide (z.cps.toList < z'.cps.toList))) H) : rLtS (.str z) (.str z') H Q := ⟨z, z', rfl, rfl, h⟩
theorem go_leS {z z' : Str} (h : Q (.bl (!decide (z'.cps.toList < z.cps.toList))) H) : rLeS (.str z) (.str z') H Q := ⟨z, z', rfl, rfl, h⟩
theorem go_chain {r r' : R2} (h : ta σ H fun x H1 => tb σ H1 fun y H2 => r x y H2 fun z H3 => ∃ k, z = .bl k ∧ (if k = true then tc σ H3 fun w' H4 => r' y w' H4 Q else Q (.bl false) H3)) : tChain r r' ta tb tc σ H Q := h
theorem go_j {ts : List TE} (h : tJs ts Str.empty σ H fun out H1 => Q (.str out) H1) : tJ ts σ H Q := h
theorem go_js0 {acc : Str} {R : Str → Hp → Prop} (h : R acc H) : tJs [] acc σ H R := h
theorem go_js {ts : List TE} {acc : Str} {R : Str → Hp → Prop} (h : te σ H fun x H1 => ∃ y : Str, x = .str y ∧ (acc ++ y).length ≤ sizeLine ∧ tJs ts (acc ++ y) σ H1 R) : tJs (te :: ts) acc σ H R := h
theorem go_fmt (h : te σ H fun x H1 => (∃ y : Str, x = .str y ∧ y.length ≤ sizeLine ∧ Q (.str y) H1) ∨ ∃ i : Int, x = .int i ∧ i.natAbs.log2 < 1920 ∧ Q (.str (toString i)) H1) : tFmt te σ H Q := h
theorem go_m1 {r : V → List V → Hp → VK → Prop} (h : to σ H fun x H1 => (∃ a, x = .str a) ∧ te σ H1 fun y H2 => r x [y] H2 Q) : tM1 r to te σ H Q := h
theorem go_iStr {R : It → Hp → Prop} (h : te σ H fun v H1 => ∃ x, v = .str x ∧ R (Its x) H1) : iStr te σ H R := h
theorem go_iZip {R : It → Hp → Prop} (h : tA σ H fun vs H1 => ∃ a b xs ys, vs = [.ref a, .ref b] ∧ SqL K H1 a xs ∧ SqL K H1 b ys ∧ R (Itz K a b) H1) : iZip K tA σ H R := h
theorem go_iKeys {R : It → Hp → Prop} (h : te σ H fun x H1 => ∃ d o, x = .ref d ∧ ((∃ kvs, H1 d = some (.frz o (.dK kvs)) ∧ R (Itk d o kvs) H1) ∨ ∃ kvs, H1 d = some (.frz o (.dT kvs)) ∧ R (Itkt d o kvs) H1)) : iKeys te σ H R := h
theorem go_dget (h : ta σ H fun x H1 => tb σ H1 fun y H2 => ∃ a v, x = .ref a ∧ DGet H2 a y (some v) ∧ Q v H2) : tDGet ta tb σ H Q := h
theorem go_dc {wi : TI} {g : TG} {tt : TT} {tk : TE} {vs : List Nat} (h : wi σ H fun J H1 => ∀ D, H1 D = none → ∃ W : Nat → Nat → Hp → Prop, (∃ m, W 0 m (upd H1 D (.dK []))) ∧ ∀ i m H, W i m H →
  (J.stop i H ∧ Q (.ref D) H) ∨ (J.go i H ∧ ∃ Nx : Hp → Prop, (∀ H', Nx H' → ∃ m', m' < m ∧ W (i + 1) m' H') ∧ ∀ x H', J.yld i H x H' → g x (wipe σ vs) H' fun σ2 H2 => wipe σ2 vs = wipe σ vs ∧ tt σ2 H2 fun b H3 =>
    if b = true then tk σ2 H3 fun y H4 => tv σ2 H4 fun z H5 => ∃ kvs k, y = kV k ∧ H5 D = some (.dK kvs) ∧ kvs.length < sizeLine ∧ Nx (upd H5 D (.dK (putK kvs k z))) else Nx H3)) : tDc wi g tt tk tv vs σ H Q := h
end

/-! ### comprehensions over heaps that only grow -/
section
variable {J : It} {n : Nat} {G : Hp → Prop} {Y : Nat → Hp → V → Hp → Prop} {g : TG} {tt : TT} {te tk tv : TE} {vs : List Nat} {σ : L2.St} {H1 : Hp} {Qd : Addr → Hp → Prop}
end
end SL

set_option Elab.async false
set_option linter.all false
set_option maxRecDepth 100000
set_option maxHeartbeats 4000000
/-! ### data in the layer's heap -/
namespace DY
abbrev FnOk := @SL.FnOk
abbrev Room := @SL.Room
abbrev run_fn := @SL.run_fn
abbrev run_fnN := @SL.run_fnN
abbrev run_make := @SL.run_make
abbrev run_makeN := @SL.run_makeN
abbrev pe_call := @SL.pe_call
abbrev pe_make := @SL.pe_make
open PySem L2
def S (l : List Nat) : Str := ⟨l.toArray⟩
theorem S_inj {a b : List Nat} (h : S a = S b) : a = b := by
  have : a.toArray = b.toArray := congrArg Str.cps h
  exact List.toArray_inj this
theorem S_cps (x : Str) : S x.cps.toList = x := by cases x; rfl
def kK : Ky → Key
  | .inl i => .inl i
  | .inr l => .inr (S l)
theorem kK_inj {a b : Ky} (h : kK a = kK b) : a = b := by
  cases a <;> cases b <;> simp [kK] at h
  · rw [h]
  · rw [S_inj h]
def BT.nm : BT → String
  | .int => "int" | .bool => "bool" | .str => "str" | .tuple => "tuple" | .list => "list" | .dict => "dict" | .set => "set" | .xv => "ValueError" | .xl => "LookupError" | .xa => "ArithmeticError"
/-- the classes: where they stand, their attributes in order -/
structure CT where
  ad : Nat → Addr
  nms : Nat → List Str
  cs : List Nat
  xs : List Nat := []
variable (K : PySem.W.Frag) (A : CT)
mutual
inductive Rep (G : Hp) : V → D → Prop
  | non : Rep G .non .non
  | bl (b : Bool) : Rep G (.bl b) (.bl b)
  | int (i : Int) : Rep G (.int i) (.int i)
  | str (l : List Nat) : Rep G (.str (S l)) (.str l)
  | ty (t : BT) : Rep G (.ty t.nm) (.ty t)
  | cls (c : Nat) : c ∈ A.cs → Rep G (.ref (A.ad c)) (.cls c)
  | any (v : V) : Rep G v .any
  | lst {p : Addr} {vs : List V} {ds : List D} : G p = some (.lst vs) → Reps G vs ds → Rep G (.ref p) (.lst ds)
  | fls {p : Addr} {vs : List V} {ds : List D} : SqL K G p vs → Reps G vs ds → Rep G (.ref p) (.fls ds)
  | tup {p : Addr} {o : Obj} {vs : List V} {ds : List D} : o.dict = none → G p = some (.frz o (.tup vs)) → Reps G vs ds → Rep G (.ref p) (.tup ds)
  | emp {p : Addr} {o : Obj} {n : Nat} : K.lookup p = some o → o.cls = .type "tuple" → o.dict = none → o.data = .seq #[] n → Rep G (.ref p) (.tup [])
  | kt {p : Addr} {vs : List V} {ds : List D} : G p = some (.tup vs) → Reps G vs ds → Rep G (.ref p) (.kt ds)
  | dic {p : Addr} {kvs : List (Key × V)} {ds : List (Ky × D)} : G p = some (.dK kvs) → RepK G kvs ds → Rep G (.ref p) (.dic ds)
  | dct {p : Addr} {kvs : List (List Key × V)} {ds : List (List Ky × D)} : G p = some (.dT kvs) → RepT G kvs ds → Rep G (.ref p) (.dct ds)
  | ins {p dx : Addr} {c : Nat} {vs : List V} {ds : List D} : G p = some (.ins (A.ad c) dx ((A.nms c).zip vs)) → vs.length ≤ (A.nms c).length → c ∈ A.cs → Reps G vs ds → Rep G (.ref p) (.ins c ds)
inductive Reps (G : Hp) : List V → List D → Prop
  | nil : Reps G [] []
  | cons {v : V} {d : D} {vs : List V} {ds : List D} : Rep G v d → Reps G vs ds → Reps G (v :: vs) (d :: ds)
inductive RepK (G : Hp) : List (Key × V) → List (Ky × D) → Prop
  | nil : RepK G [] []
  | cons {k : Ky} {v : V} {d : D} {vs : List (Key × V)} {ds : List (Ky × D)} : Rep G v d → RepK G vs ds → RepK G ((kK k, v) :: vs) ((k, d) :: ds)
inductive RepT (G : Hp) : List (List Key × V) → List (List Ky × D) → Prop
  | nil : RepT G [] []
  | cons {k : List Ky} {v : V} {d : D} {vs : List (List Key × V)} {ds : List (List Ky × D)} : Rep G v d → RepT G vs ds → RepT G ((k.map kK, v) :: vs) ((k, d) :: ds)
end
variable {K : PySem.W.Frag} {A : CT} {G G' G1 G2 H H' H1 H2 : Hp}
theorem sqL_same {p : Addr} {xs : List V} (e : L2.Same G G') (h : SqL K G p xs) : SqL K G' p xs := by
  rcases h with (h | ⟨o, h⟩) | h
  · exact .inl (.inl (e _ _ h))
  · exact .inl (.inr ⟨o, e _ _ h⟩)
  · exact .inr h
mutual
theorem Rep.mono (e : L2.Same G G') : ∀ {v : V} {d : D}, Rep K A G v d → Rep K A G' v d
  | _, _, .non => .non
  | _, _, .bl b => .bl b
  | _, _, .int i => .int i
  | _, _, .str l => .str l
  | _, _, .ty t => .ty t
  | _, _, .cls c h => .cls c h
  | _, _, .any v => .any v
  | _, _, .lst h r => .lst (e _ _ h) (Reps.mono e r)
  | _, _, .fls h r => .fls (sqL_same e h) (Reps.mono e r)
  | _, _, .tup n h r => .tup n (e _ _ h) (Reps.mono e r)
  | _, _, .emp a b c d => .emp a b c d
  | _, _, .kt h r => .kt (e _ _ h) (Reps.mono e r)
  | _, _, .dic h r => .dic (e _ _ h) (RepK.mono e r)
  | _, _, .dct h r => .dct (e _ _ h) (RepT.mono e r)
  | _, _, .ins h l c r => .ins (e _ _ h) l c (Reps.mono e r)
theorem Reps.mono (e : L2.Same G G') : ∀ {vs : List V} {ds : List D}, Reps K A G vs ds → Reps K A G' vs ds
  | _, _, .nil => .nil
  | _, _, .cons h r => .cons (Rep.mono e h) (Reps.mono e r)
theorem RepK.mono (e : L2.Same G G') : ∀ {vs : List (Key × V)} {ds : List (Ky × D)}, RepK K A G vs ds → RepK K A G' vs ds
  | _, _, .nil => .nil
  | _, _, .cons h r => .cons (Rep.mono e h) (RepK.mono e r)
theorem RepT.mono (e : L2.Same G G') : ∀ {vs : List (List Key × V)} {ds : List (List Ky × D)}, RepT K A G vs ds → RepT K A G' vs ds
  | _, _, .nil => .nil
  | _, _, .cons h r => .cons (Rep.mono e h) (RepT.mono e r)
end
theorem Reps.len {vs : List V} {ds : List D} (h : Reps K A G vs ds) : vs.length = ds.length := by
  induction vs generalizing ds with
  | nil => cases h; rfl
  | cons v vs ih => cases h with | cons _ r => rw [List.length_cons, List.length_cons, ih r]
theorem Reps.inv1 {vs : List V} {d : D} (h : Reps K A G vs [d]) : ∃ v, vs = [v] ∧ Rep K A G v d := by
  cases h with | cons a r => cases r; exact ⟨_, rfl, a⟩
theorem Reps.inv2 {vs : List V} {d e : D} (h : Reps K A G vs [d, e]) : ∃ v w, vs = [v, w] ∧ Rep K A G v d ∧ Rep K A G w e := by
  cases h with | cons a r => cases r with | cons b r => cases r; exact ⟨_, _, rfl, a, b⟩
theorem Reps.append {vs ws : List V} {ds es : List D} (h : Reps K A G vs ds) (h' : Reps K A G ws es) : Reps K A G (vs ++ ws) (ds ++ es) := by
  induction vs generalizing ds with
  | nil => cases h; exact h'
  | cons v vs ih => cases h with | cons a r => exact .cons a (ih r)
theorem Reps.get {vs : List V} {ds : List D} {i : Nat} {v : V} (h : Reps K A G vs ds) (e : vs[i]? = some v) : ∃ d, ds[i]? = some d ∧ Rep K A G v d := by
  induction vs generalizing ds i with
  | nil => simp at e
  | cons w vs ih =>
    cases h with
    | cons a r =>
      cases i with
      | zero => simp at e; subst e; exact ⟨_, rfl, a⟩
      | succ i => exact ih (i := i) r (by simpa using e)
theorem Reps.get' {vs : List V} {ds : List D} {i : Nat} {d : D} (h : Reps K A G vs ds) (e : ds[i]? = some d) : ∃ v, vs[i]? = some v ∧ Rep K A G v d := by
  induction vs generalizing ds i with
  | nil => cases h; simp at e
  | cons w vs ih =>
    cases h with
    | cons a r =>
      cases i with
      | zero => simp at e; subst e; exact ⟨_, rfl, a⟩
      | succ i => exact ih (i := i) r (by simpa using e)
theorem Reps.take {vs : List V} {ds : List D} (h : Reps K A G vs ds) (n : Nat) : Reps K A G (vs.take n) (ds.take n) := by
  induction vs generalizing ds n with
  | nil => cases h; simp; exact .nil
  | cons w vs ih =>
    cases h with
    | cons a r => cases n with
      | zero => exact .nil
      | succ n => exact .cons a (ih r n)
theorem Reps.drop {vs : List V} {ds : List D} (h : Reps K A G vs ds) (n : Nat) : Reps K A G (vs.drop n) (ds.drop n) := by
  induction vs generalizing ds n with
  | nil => cases h; simp; exact .nil
  | cons w vs ih =>
    cases h with
    | cons a r => cases n with
      | zero => exact .cons a r
      | succ n => exact ih r n
theorem Reps.set {vs : List V} {ds : List D} {v : V} {d : D} (h : Reps K A G vs ds) (hv : Rep K A G v d) (n : Nat) : Reps K A G (vs.set n v) (ds.set n d) := by
  induction vs generalizing ds n with
  | nil => cases h; simp; exact .nil
  | cons w vs ih =>
    cases h with
    | cons a r => cases n with
      | zero => exact .cons hv r
      | succ n => exact .cons a (ih r n)
/-- dicts may be walked while they are known -/
def isD : HO → Prop
  | .dK _ => True
  | .dT _ => True
  | _ => False
/-- the tables of code objects, and the names of what they tell -/
class Tb where
  T : List (Addr × Str)
  base : Hp := fun _ => none
variable [Tb]
structure Sub (G H : Hp) : Prop where
  at_ : ∀ p o, G p = some o → H p = some o ∨ (isD o ∧ ∃ ob, H p = some (.frz ob o))
  tb : LamX.Tabs Tb.T H
  nt : ∀ p ps, G p ≠ some (.tbl ps)
  bs : L2.Same Tb.base G
instance : CoeFun (Sub G H) fun _ => ∀ p o, G p = some o → H p = some o ∨ (isD o ∧ ∃ ob, H p = some (.frz ob o)) := ⟨Sub.at_⟩
/-- the heap without its tables -/
def noTb (H : Hp) : Hp := fun p => match H p with
  | some (.tbl _) => none
  | o => o
theorem noTb_ok {p : Addr} {o : HO} (h : H p = some o) (n : ∀ ps, o ≠ .tbl ps) : noTb H p = some o := by
  unfold noTb; rw [h]
  split
  · rename_i ps e; exact absurd (Option.some.inj e) (n ps)
  · rfl
theorem noTb_at {p : Addr} {o : HO} (h : noTb H p = some o) : H p = some o ∧ ∀ ps, o ≠ .tbl ps := by
  unfold noTb at h
  split at h
  · cases h
  · rename_i n; exact ⟨h, fun ps e => n ps (by rw [h, e])⟩
theorem Sub.start {H : Hp} (t : LamX.Tabs Tb.T H) (b : ∀ p, Tb.base p = none) : Sub (noTb H) H := ⟨fun _ _ h => .inl (noTb_at h).1, t, fun p ps h => (noTb_at h).2 ps rfl, fun p o h => by rw [b] at h; cases h⟩
/-- no table of code objects, none of them -/
def nT : HO → Prop
  | .tbl _ => False
  | .ext _ => False
  | _ => True
theorem nT.up {p : Addr} {o u : HO} {T : List (Addr × Str)} (h : H p = some o) (n : nT o) (t : LamX.Tabs T H) : LamX.Tabs T (upd H p u) := fun x hx => by
  obtain ⟨ps, h1, h2, h3⟩ := t x hx
  have ne : ∀ {b : Addr} {v : HO}, H b = some v → ¬ nT v → b ≠ p := fun e nv z => by
    subst z; rw [h] at e; cases e; exact nv n
  refine ⟨ps, by rw [upd_ne (ne h1 fun z => z)]; exact h1, h2, fun pos cv hc => ?_⟩
  obtain ⟨c, e1, e2⟩ := h3 pos cv hc
  exact ⟨c, e1, by rw [upd_ne (ne e2 fun z => z)]; exact e2⟩
theorem nT.new {p : Addr} {u : HO} {T : List (Addr × Str)} (h : H p = none) (t : LamX.Tabs T H) : LamX.Tabs T (upd H p u) := t.ext fun b o e => by rw [upd_ne (ne_of_none e h)]; exact e
theorem Sub.ex {p : Addr} {o : HO} (s : Sub G H) (h : G p = some o) : ∃ u, H p = some u := by
  rcases s p o h with h | ⟨_, ob, h⟩
  · exact ⟨_, h⟩
  · exact ⟨_, h⟩
theorem Sub.sqL {p : Addr} {xs : List V} (s : Sub G H) (h : SqL K G p xs) : SqL K H p xs := by
  rcases h with (h | ⟨o, h⟩) | h
  · rcases s _ _ h with h | ⟨z, _⟩
    · exact .inl (.inl h)
    · exact z.elim
  · rcases s _ _ h with h | ⟨z, _⟩
    · exact .inl (.inr ⟨o, h⟩)
    · exact z.elim
  · exact .inr h
theorem Sub.ins {p C dx : Addr} {fs : List (Str × V)} (s : Sub G H) (h : G p = some (.ins C dx fs)) : H p = some (.ins C dx fs) := by
  rcases s _ _ h with h | ⟨z, _⟩
  · exact h
  · exact z.elim
theorem Sub.lst {p : Addr} {vs : List V} (s : Sub G H) (h : G p = some (.lst vs)) : H p = some (.lst vs) := by
  rcases s _ _ h with h | ⟨z, _⟩
  · exact h
  · exact z.elim
theorem Sub.tup {p : Addr} {vs : List V} (s : Sub G H) (h : G p = some (.tup vs)) : H p = some (.tup vs) := by
  rcases s _ _ h with h | ⟨z, _⟩
  · exact h
  · exact z.elim
theorem Sub.frt {p : Addr} {o : Obj} {vs : List V} (s : Sub G H) (h : G p = some (.frz o (.tup vs))) : H p = some (.frz o (.tup vs)) := by
  rcases s _ _ h with h | ⟨z, _⟩
  · exact h
  · exact z.elim
theorem sqT_emp {p : Addr} {o : Obj} {n : Nat} (a : K.lookup p = some o) (b : o.cls = .type "tuple") (d : o.data = .seq #[] n) : SqT K H p [] := .inr ⟨o, #[], n, a, b, d, Nat.zero_le _, .nil⟩
theorem Rep.sqT {v : V} {ds : List D} (h : Rep K A G v (.tup ds)) (s : Sub G H) : ∃ p vs, v = .ref p ∧ SqT K H p vs ∧ Reps K A G vs ds := by
  cases h with
  | tup n h r => exact ⟨_, _, rfl, .inl (.inr ⟨_, s.frt h⟩), r⟩
  | emp a b c d => exact ⟨_, _, rfl, sqT_emp a b d, .nil⟩
theorem Rep.sqK {v : V} {ds : List D} (h : Rep K A G v (.kt ds)) (s : Sub G H) : ∃ p vs, v = .ref p ∧ H p = some (.tup vs) ∧ Reps K A G vs ds := by
  cases h with
  | kt h r => exact ⟨_, _, rfl, s.tup h, r⟩
theorem Sub.dK {p : Addr} {kvs : List (Key × V)} (s : Sub G H) (h : G p = some (.dK kvs)) : Rd H p (.dK kvs) := by
  rcases s _ _ h with h | ⟨_, ob, h⟩
  · exact .inl h
  · exact .inr ⟨ob, h⟩
theorem Sub.dT {p : Addr} {kvs : List (List Key × V)} (s : Sub G H) (h : G p = some (.dT kvs)) : Rd H p (.dT kvs) := by
  rcases s _ _ h with h | ⟨_, ob, h⟩
  · exact .inl h
  · exact .inr ⟨ob, h⟩
/-- an object of one's own -/
def Has (K : PySem.W.Frag) (A : CT) (G H : Hp) (p : Addr) : D → Prop
  | .lst ds => ∃ vs, H p = some (.lst vs) ∧ Reps K A G vs ds
  | .dic ds => ∃ kvs, H p = some (.dK kvs) ∧ RepK K A G kvs ds
  | .dct ds => ∃ kvs, H p = some (.dT kvs) ∧ RepT K A G kvs ds
  | .ins c ds => ∃ dx vs, H p = some (.ins (A.ad c) dx ((A.nms c).zip vs)) ∧ vs.length ≤ (A.nms c).length ∧ c ∈ A.cs ∧ Reps K A G vs ds
  | _ => False
theorem Has.nt {p : Addr} {d : D} (h : Has K A G H p d) : ∃ o, H p = some o ∧ nT o := by
  cases d with
  | lst ds => obtain ⟨vs, h, _⟩ := h; exact ⟨_, h, trivial⟩
  | dic ds => obtain ⟨vs, h, _⟩ := h; exact ⟨_, h, trivial⟩
  | dct ds => obtain ⟨vs, h, _⟩ := h; exact ⟨_, h, trivial⟩
  | ins c ds => obtain ⟨_, vs, h, _⟩ := h; exact ⟨_, h, trivial⟩
  | _ => exact h.elim
theorem Sub.nt_new {p : Addr} {o : HO} (s : Sub G H) (h : nT o) : ∀ q ps, upd G p o q ≠ some (.tbl ps) := fun q ps e => by
  by_cases z : q = p
  · rw [z, upd_same] at e; cases e; exact h
  · rw [upd_ne z] at e; exact s.nt q ps e
theorem Sub.nt_upd {p : Addr} {o : HO} (s : Sub G H1) (h : ∃ o, H p = some o ∧ nT o) (e : H p = some o) : ∀ q ps, upd G p o q ≠ some (.tbl ps) := by
  obtain ⟨o', h1, h2⟩ := h
  rw [e] at h1; cases h1
  exact s.nt_new h2
theorem Has.ex {p : Addr} {d : D} (h : Has K A G H p d) : ∃ o, H p = some o := by
  cases d with
  | lst ds => obtain ⟨vs, h, _⟩ := h; exact ⟨_, h⟩
  | dic ds => obtain ⟨vs, h, _⟩ := h; exact ⟨_, h⟩
  | dct ds => obtain ⟨vs, h, _⟩ := h; exact ⟨_, h⟩
  | ins c ds => obtain ⟨_, vs, h, _⟩ := h; exact ⟨_, h⟩
  | _ => exact h.elim
theorem Has.mono {p : Addr} {d : D} (h : Has K A G H p d) (e : L2.Same G G') (k : ∀ o, H p = some o → (∀ ps, o ≠ .tbl ps) → H' p = some o) : Has K A G' H' p d := by
  cases d with
  | lst ds => obtain ⟨vs, h, r⟩ := h; exact ⟨vs, k _ h (fun _ z => nomatch z), r.mono e⟩
  | dic ds => obtain ⟨vs, h, r⟩ := h; exact ⟨vs, k _ h (fun _ z => nomatch z), r.mono e⟩
  | dct ds => obtain ⟨vs, h, r⟩ := h; exact ⟨vs, k _ h (fun _ z => nomatch z), r.mono e⟩
  | ins c ds => obtain ⟨dx, vs, h, l, c, r⟩ := h; exact ⟨dx, vs, k _ h (fun _ z => nomatch z), l, c, r.mono e⟩
  | _ => exact h.elim
theorem Has.frz {p : Addr} {d : D} (h : Has K A G H p d) (n : G p = none) : ∃ o, H p = some o ∧ Rep K A (upd G p o) (.ref p) d := by
  have e : ∀ o, L2.Same G (upd G p o) := fun o => SL.Same.new n
  cases d with
  | lst ds => obtain ⟨vs, h, r⟩ := h; exact ⟨_, h, .lst upd_same (r.mono (e _))⟩
  | dic ds => obtain ⟨vs, h, r⟩ := h; exact ⟨_, h, .dic upd_same (r.mono (e _))⟩
  | dct ds => obtain ⟨vs, h, r⟩ := h; exact ⟨_, h, .dct upd_same (r.mono (e _))⟩
  | ins c ds => obtain ⟨dx, vs, h, l, c, r⟩ := h; exact ⟨_, h, .ins upd_same l c (r.mono (e _))⟩
  | _ => exact h.elim
/-! ### slots -/
def SlotOk (K : PySem.W.Frag) (A : CT) (G H : Hp) (ov : Option V) : Slot → Prop
  | .un => True
  | .sh d => ∃ v, ov = some v ∧ Rep K A G v d
  | .ow d => ∃ p, ov = some (.ref p) ∧ G p = none ∧ Has K A G H p d
def Own (σ : L2.St) (ρ : Env) (i : Nat) (p : Addr) : Prop := (∃ d, ρ[i]? = some (.ow d)) ∧ σ[i]? = some (some (.ref p))
def OwnS (σ : L2.St) (ρ : Env) (p : Addr) : Prop := ∃ i, Own σ ρ i p
structure St (K : PySem.W.Frag) (A : CT) (σ : L2.St) (G H : Hp) (ρ : Env) : Prop where
  sub : Sub G H
  len : σ.length = ρ.length
  slot : ∀ i s, ρ[i]? = some s → SlotOk K A G H (σ.getD i none) s
  dist : ∀ i j p, Own σ ρ i p → Own σ ρ j p → i = j
/-- what may have changed -/
structure Ext (O : Addr → Prop) (G H G' H' : Hp) : Prop where
  gs : L2.Same G G'
  fr : ∀ p, G' p ≠ none → G p ≠ none ∨ H p = none ∨ O p
  hs : ∀ p o, H p = some o → ¬ O p → (∀ ps, o ≠ .tbl ps) → H' p = some o
  there : ∀ p, H p ≠ none → H' p ≠ none
theorem Ext.refl (O : Addr → Prop) (G H : Hp) : Ext O G H G H := ⟨fun _ _ h => h, fun _ h => .inl h, fun _ _ h _ _ => h, fun _ h => h⟩
theorem Ext.weak {O O' : Addr → Prop} (e : Ext O G H G' H') (h : ∀ p, O p → O' p) : Ext O' G H G' H' :=
  ⟨e.gs, fun p z => (e.fr p z).imp id fun z => z.imp id (h p), fun p o a n q => e.hs p o a (fun z => n (h p z)) q, e.there⟩
theorem Ext.trans {O O' : Addr → Prop} (a : Ext O G H G1 H1) (b : Ext O' G1 H1 G2 H2) (h : ∀ p, O' p → O p ∨ H p = none) : Ext O G H G2 H2 where
  gs := fun p o z => b.gs p o (a.gs p o z)
  fr := fun p z => by
    rcases b.fr p z with z | z | z
    · exact a.fr p z
    · refine .inr (.inl ?_)
      cases q : H p with
      | none => rfl
      | some o => exact absurd z (a.there p (by rw [q]; exact fun x => nomatch x))
    · exact .inr ((h p z).elim .inr .inl)
  hs := fun p o z n nt => by
    refine b.hs p o (a.hs p o z n nt) (fun q => ?_) nt
    rcases h p q with q | q
    · exact n q
    · rw [z] at q; cases q
  there := fun p z => b.there p (a.there p z)
/-- behind an evaluation -/
structure Nx (K : PySem.W.Frag) (A : CT) (σ : L2.St) (G H : Hp) (ρ : Env) (G' H' : Hp) (ρ' : Env) : Prop where
  ext : Ext (OwnS σ ρ) G H G' H'
  st : St K A σ G' H' ρ'
  own : ∀ i p, Own σ ρ' i p → Own σ ρ i p
section
variable {σ : L2.St} {ρ ρ1 ρ2 ρ' : Env}
theorem Nx.refl (s : St K A σ G H ρ) : Nx K A σ G H ρ G H ρ := ⟨Ext.refl _ _ _, s, fun _ _ h => h⟩
theorem Nx.trans (a : Nx K A σ G H ρ G1 H1 ρ1) (b : Nx K A σ G1 H1 ρ1 G2 H2 ρ2) : Nx K A σ G H ρ G2 H2 ρ2 :=
  ⟨a.ext.trans b.ext fun p ⟨i, z⟩ => .inl ⟨i, a.own i p z⟩, b.st, fun i p z => a.own i p (b.own i p z)⟩
theorem Nx.gs (a : Nx K A σ G H ρ G1 H1 ρ1) : L2.Same G G1 := a.ext.gs
theorem Own.has (s : St K A σ G H ρ) {i : Nat} {p : Addr} (h : Own σ ρ i p) : G p = none ∧ ∃ d, ρ[i]? = some (.ow d) ∧ Has K A G H p d := by
  obtain ⟨⟨d, h1⟩, h2⟩ := h
  obtain ⟨q, e, n, z⟩ := s.slot i _ h1
  rw [List.getD_eq_getElem?_getD, h2] at e
  cases e
  exact ⟨n, d, h1, z⟩
theorem OwnS.there (s : St K A σ G H ρ) {p : Addr} (h : OwnS σ ρ p) : H p ≠ none := by
  obtain ⟨i, h⟩ := h
  obtain ⟨_, d, _, z⟩ := h.has s
  obtain ⟨o, e⟩ := z.ex
  rw [e]; exact fun x => nomatch x
/-- the heap changes but not at our own objects -/
structure Nx0 (G H G' H' : Hp) : Prop where
  ext : Ext (fun _ => False) G H G' H'
  sub : Sub G' H'
theorem Nx0.refl (s : Sub G H) : Nx0 G H G H := ⟨Ext.refl _ _ _, s⟩
theorem St.nx0 (s : St K A σ G H ρ) (n : Nx0 G H G' H') : Nx K A σ G H ρ G' H' ρ := by
  refine ⟨n.ext.weak fun _ h => h.elim, ⟨n.sub, s.len, fun i z hz => ?_, s.dist⟩, fun _ _ h => h⟩
  have q := s.slot i z hz
  cases z with
  | un => trivial
  | sh d => obtain ⟨v, e, r⟩ := q; exact ⟨v, e, r.mono n.ext.gs⟩
  | ow d =>
    obtain ⟨p, e, g, h⟩ := q
    refine ⟨p, e, ?_, h.mono n.ext.gs fun o ho nt => n.ext.hs p o ho id nt⟩
    cases q2 : G' p with
    | none => rfl
    | some o =>
      rcases n.ext.fr p (by rw [q2]; exact fun x => nomatch x) with z | z | z
      · exact absurd g z
      · obtain ⟨o, e⟩ := h.ex; rw [z] at e; cases e
      · exact z.elim
/-- the value of a result: new and nobody's, or a value that stays -/
def RepR (K : PySem.W.Frag) (A : CT) (O : Addr → Prop) (H G' H' : Hp) (v : V) (r : Rv) : Prop :=
  if r.2 = true then ∃ p, v = .ref p ∧ G' p = none ∧ Has K A G' H' p r.1 ∧ ¬ O p ∧ H p = none else Rep K A G' v r.1
theorem RepR.of {O : Addr → Prop} {v : V} {d : D} (h : Rep K A G' v d) : RepR K A O H G' H' v (d, false) := h
theorem RepR.new {O : Addr → Prop} {p : Addr} {d : D} (h1 : G' p = none) (h2 : Has K A G' H' p d) (h3 : ¬ O p) (h4 : H p = none) : RepR K A O H G' H' (.ref p) (d, true) := ⟨p, rfl, h1, h2, h3, h4⟩
/-- an own object is given up -/
theorem St.freeze {p : Addr} {d : D} (s : St K A σ G H ρ) (n : G p = none) (h : Has K A G H p d) (no : ¬ OwnS σ ρ p) : ∃ o, H p = some o ∧ St K A σ (upd G p o) H ρ ∧ Rep K A (upd G p o) (.ref p) d ∧ L2.Same G (upd G p o) := by
  obtain ⟨o, ho, r⟩ := h.frz n
  have e : L2.Same G (upd G p o) := SL.Same.new n
  refine ⟨o, ho, ⟨⟨fun q u hq => ?_, s.sub.tb, s.sub.nt_upd h.nt ho, s.sub.bs.trans e⟩, s.len, fun i z hz => ?_, s.dist⟩, r, e⟩
  · by_cases z : q = p
    · subst z; rw [upd_same] at hq; cases hq; exact .inl ho
    · rw [upd_ne z] at hq; exact s.sub q u hq
  · have q := s.slot i z hz
    cases z with
    | un => trivial
    | sh d => obtain ⟨v, e1, r1⟩ := q; exact ⟨v, e1, r1.mono e⟩
    | ow d' =>
      obtain ⟨p', e1, g, h1⟩ := q
      have hne : p' ≠ p := fun z => by
        subst z
        refine no ⟨i, ⟨d', hz⟩, ?_⟩
        rw [List.getD_eq_getElem?_getD] at e1
        cases q : σ[i]? with
        | none => rw [q] at e1; cases e1
        | some x => rw [q] at e1; exact congrArg some e1
      exact ⟨p', e1, by rw [upd_ne hne]; exact g, h1.mono e fun _ z _ => z⟩
theorem Nx.frz {v : V} {r : Rv} (n : Nx K A σ G H ρ G' H' ρ') (h : RepR K A (OwnS σ ρ') H G' H' v r) : ∃ G2, Nx K A σ G H ρ G2 H' ρ' ∧ Rep K A G2 v r.1 ∧ L2.Same G' G2 := by
  unfold RepR at h
  split at h
  · obtain ⟨p, rfl, h1, h2, h3, h4⟩ := h
    obtain ⟨o, ho, s, rr, e⟩ := n.st.freeze h1 h2 h3
    refine ⟨_, ⟨⟨n.ext.gs.trans e, fun q hq => ?_, n.ext.hs, n.ext.there⟩, s, n.own⟩, rr, e⟩
    by_cases z : q = p
    · subst z; exact .inr (.inl h4)
    · rw [upd_ne z] at hq; exact n.ext.fr q hq
  · exact ⟨G', n, h, fun _ _ z => z⟩
end
/-! ### readings of mirrors -/
section
variable (K : PySem.W.Frag) (A : CT)
def liftE (m : Ev) : TE := fun σ H Q => ∃ G ρ r ρ', St K A σ G H ρ ∧ m ρ = .ok (r, ρ') ∧ ∀ v G' H', Nx K A σ G H ρ G' H' ρ' → RepR K A (OwnS σ ρ') H G' H' v r → Q v H'
def liftT (m : Ev) : TT := fun σ H Q => ∃ G ρ b ρ', St K A σ G H ρ ∧ val m ρ = .ok (.bl b, ρ') ∧ ∀ G' H', Nx K A σ G H ρ G' H' ρ' → Q b H'
def liftA (ms : List Ev) : TA := fun σ H Q => ∃ G ρ ds ρ', St K A σ G H ρ ∧ evs ms ρ = .ok (ds, ρ') ∧ ∀ vs G' H', Nx K A σ G H ρ G' H' ρ' → Reps K A G' vs ds → Q vs H'
end
variable {Q : VK}
theorem use_val {σ : L2.St} {ρ ρ' : Env} {m : Ev} {d : D} (s : St K A σ G H ρ) (e : val m ρ = .ok (d, ρ')) (k : ∀ v G' H', Nx K A σ G H ρ G' H' ρ' → Rep K A G' v d → Q v H') : liftE K A m σ H Q := by
  obtain ⟨⟨r, ρ1⟩, e1, e2⟩ := bind_ok e
  cases e2
  refine ⟨G, ρ, r, _, s, e1, fun v G' H' n h => ?_⟩
  obtain ⟨G2, n2, h2, _⟩ := n.frz h
  exact k v G2 H' n2 h2
abbrev PD (A : CT) (X : Cx) (e : Expr) (m : Ev) : Prop := PE X e (liftE X.K A m)
abbrev PDT (A : CT) (X : Cx) (e : Expr) (m : Ev) : Prop := PT X e (liftT X.K A m)
abbrev PDA (A : CT) (X : Cx) (es : List Expr) (ms : List Ev) : Prop := PA X es (liftA X.K A ms)
theorem PE.imp {X : Cx} {e : Expr} {t t' : TE} (h : PE X e t) (k : ∀ σ H Q, t' σ H Q → t σ H Q) : PE X e t' := ⟨fun pins s σ H Q I q => h.run pins s σ H Q I (k σ H Q q)⟩
theorem PT.imp {X : Cx} {e : Expr} {t t' : TT} (h : PT X e t) (k : ∀ σ H Q, t' σ H Q → t σ H Q) : PT X e t' := ⟨fun pins s σ H Q I q => h.run pins s σ H Q I (k σ H Q q)⟩
theorem PA.imp {X : Cx} {e : List Expr} {t t' : TA} (h : PA X e t) (k : ∀ σ H Q, t' σ H Q → t σ H Q) : PA X e t' := ⟨fun pos pins s σ H Q I q => h.run pos pins s σ H Q I (k σ H Q q)⟩
theorem PS.imp {X : Cx} {e : Stmt} {t t' : TS} (h : PS X e t) (k : ∀ D σ H, t' D σ H → t D σ H) : PS X e t' := ⟨fun pins s σ H D I q => h.run pins s σ H D I (k D σ H q)⟩
theorem PSs.imp {X : Cx} {e : List Stmt} {t t' : TS} (h : PSs X e t) (k : ∀ D σ H, t' D σ H → t D σ H) : PSs X e t' := ⟨fun pins s σ H D I q => h.run pins s σ H D I (k D σ H q)⟩
/-- operations on values -/
def RepN (K : PySem.W.Frag) (A : CT) (H G' H' : Hp) (v : V) (r : Rv) : Prop := RepR K A (fun _ => False) H G' H' v r
theorem RepN.r {σ : L2.St} {ρ : Env} {v : V} {r : Rv} (h : RepN K A H G' H' v r) (s : St K A σ G H ρ) : RepR K A (OwnS σ ρ) H G' H' v r := by
  unfold RepN RepR at *
  split at h
  · rename_i q
    obtain ⟨p, e, h1, h2, _, h4⟩ := h
    rw [if_pos q]
    exact ⟨p, e, h1, h2, fun z => OwnS.there s z h4, h4⟩
  · rename_i q
    rw [if_neg q]; exact h
end DY

set_option Elab.async false
set_option linter.all false
set_option maxRecDepth 100000
set_option maxHeartbeats 4000000
/-! ### rules for expressions -/
namespace DY
open PySem L2 PySem.Spec PyProof.Rows
variable [Tb]
variable {K : PySem.W.Frag} {A : CT} {G G' G1 G2 H H' H1 H2 : Hp} {σ : L2.St} {ρ ρ1 ρ2 ρ' : Env} {Q : VK}
theorem getD_some {i : Nat} {v : V} (h : σ.getD i none = some v) : σ[i]? = some (some v) := by
  rw [List.getD_eq_getElem?_getD] at h
  cases q : σ[i]? with
  | none => rw [q] at h; cases h
  | some x => rw [q] at h; exact congrArg some h
theorem getD_of {i : Nat} {v : Option V} (h : σ[i]? = some v) : σ.getD i none = v := by rw [List.getD_eq_getElem?_getD, h]; rfl
theorem own_set {i j : Nat} {p : Addr} {s : Slot} (ns : ∀ d, s ≠ .ow d) (h : Own σ (ρ.set i s) j p) : Own σ ρ j p ∧ j ≠ i := by
  obtain ⟨⟨d, h1⟩, h2⟩ := h
  by_cases e : i = j
  · subst e
    rw [List.getElem?_set_self'] at h1
    cases q : ρ[i]? with
    | none => rw [q] at h1; cases h1
    | some x => rw [q] at h1; exact absurd (Option.some.inj h1) (ns d)
  · rw [List.getElem?_set_ne e] at h1
    exact ⟨⟨⟨d, h1⟩, h2⟩, fun z => e z.symm⟩
/-- slot i gets something that is no own object -/
theorem St.put {i : Nat} {s : Slot} (h : St K A σ G H ρ) (ns : ∀ d, s ≠ .ow d) (k : SlotOk K A G H (σ.getD i none) s) : St K A σ G H (ρ.set i s) := by
  refine ⟨h.sub, by rw [List.length_set]; exact h.len, fun j z hz => ?_, fun a b p ha hb => h.dist a b p (own_set ns ha).1 (own_set ns hb).1⟩
  by_cases e : i = j
  · subst e
    rw [List.getElem?_set_self'] at hz
    cases q : ρ[i]? with
    | none => rw [q] at hz; cases hz
    | some x => rw [q] at hz; cases (Option.some.inj hz); exact k
  · rw [List.getElem?_set_ne e] at hz
    exact h.slot j z hz
theorem St.give {i : Nat} {d : D} (s : St K A σ G H ρ) (e : ρ[i]? = some (.ow d)) : ∃ p G2, σ[i]? = some (some (.ref p)) ∧ Nx K A σ G H ρ G2 H (ρ.set i (.sh d)) ∧ Rep K A G2 (.ref p) d := by
  obtain ⟨p, e1, n, h⟩ := s.slot i _ e
  have e2 := getD_some e1
  have s1 : St K A σ G H (ρ.set i .un) := s.put (fun _ z => nomatch z) trivial
  have no : ¬ OwnS σ (ρ.set i .un) p := fun ⟨j, z⟩ => by
    have := own_set (s := .un) (fun _ z => nomatch z) z
    exact this.2 (s.dist j i p this.1 ⟨⟨d, e⟩, e2⟩)
  obtain ⟨o, ho, s2, r, g⟩ := s1.freeze n h no
  have s3 := s2.put (i := i) (s := .sh d) (fun _ z => nomatch z) ⟨.ref p, e1, r⟩
  rw [List.set_set] at s3
  refine ⟨p, _, e2, ⟨⟨g, fun q hq => ?_, fun _ _ z _ _ => z, fun _ z => z⟩, s3, fun j q z => (own_set (s := .sh d) (fun _ z => nomatch z) z).1⟩, r⟩
  by_cases z : q = p
  · subst z; exact .inr (.inr ⟨i, ⟨d, e⟩, e2⟩)
  · rw [upd_ne z] at hq; exact .inl hq
section
variable {X : Cx}
theorem pd_var {i : Nat} {x : Str} {pos : Pos} (h : PE X (.Name x pos) (tVar i)) : PD A X (.Name x pos) (eVar i) := PE.imp h fun σ H Q q => by
  obtain ⟨G, ρ, r, ρ', s, e, k⟩ := q
  unfold eVar at e
  split at e
  · rename_i d hd
    cases e
    obtain ⟨v, e1, rv⟩ := s.slot i _ hd
    exact ⟨v, getD_some e1, k v G H (Nx.refl s) (RepR.of rv)⟩
  · rename_i d hd
    cases e
    obtain ⟨p, G2, e1, n, rv⟩ := s.give hd
    exact ⟨.ref p, e1, k _ G2 H n (RepR.of rv)⟩
  · cases e
theorem pd_c {e : Expr} {v : V} {d : D} (h : PE X e (tC v)) (r : ∀ G, Rep X.K A G v d) : PD A X e (eC d) := PE.imp h fun σ H Q q => by
  obtain ⟨G, ρ, r', ρ', s, e, k⟩ := q
  cases e
  exact k v G H (Nx.refl s) (RepR.of (r G))
theorem pd_int {i : Int} {j pos} : PD A X (.Constant (.int i) j pos) (eC (.int i)) := pd_c pe_int fun _ => .int i
theorem pd_bl {i : Bool} {j pos} : PD A X (.Constant (.bool i) j pos) (eC (.bl i)) := pd_c pe_bl fun _ => .bl i
theorem pd_non {j pos} : PD A X (.Constant .none j pos) (eC .non) := pd_c pe_non fun _ => .non
theorem rep_str {G : Hp} {x : Str} {l : List Nat} (h : x.cps.toList = l) : Rep K A G (.str x) (.str l) := by
  subst h
  have := Rep.str (K := K) (A := A) (G := G) x.cps.toList
  rw [S_cps] at this
  exact this
theorem pd_str {x : Str} {l : List Nat} {j pos} (h : x.cps.toList = l) : PD A X (.Constant (.str x) j pos) (eC (.str l)) := pd_c pe_str fun _ => rep_str h
/-! operations -/
variable (K A) in
def rD (f : D → D → R Rv) : R2 := fun x y H Q => ∃ G d1 d2 r, Sub G H ∧ Rep K A G x d1 ∧ Rep K A G y d2 ∧ f d1 d2 = .ok r ∧ ∀ v G' H', Nx0 G H G' H' → RepN K A H G' H' v r → Q v H'
variable (K A) in
def rDu (f : D → R Rv) : V → Hp → VK → Prop := fun x H Q => ∃ G d r, Sub G H ∧ Rep K A G x d ∧ f d = .ok r ∧ ∀ v G' H', Nx0 G H G' H' → RepN K A H G' H' v r → Q v H'
variable (K A) in
def rDn (f : List D → R Rv) : List V → Hp → VK → Prop := fun xs H Q => ∃ G ds r, Sub G H ∧ Reps K A G xs ds ∧ f ds = .ok r ∧ ∀ v G' H', Nx0 G H G' H' → RepN K A H G' H' v r → Q v H'
/-- where nothing new comes -/
theorem same_end {G H : Hp} {v : V} {d : D} (s : Sub G H) (r : Rep K A G v d) {Q : VK} (k : ∀ v G' H', Nx0 G H G' H' → RepN K A H G' H' v (d, false) → Q v H') : Q v H := k v G H (Nx0.refl s) (RepR.of r)
/-- from the state behind the arguments to the end -/
theorem end_of {G0 H0 : Hp} {ρ0 : Env} {r : Rv} (n : Nx K A σ G0 H0 ρ0 G H ρ) (k : ∀ v G' H', Nx K A σ G0 H0 ρ0 G' H' ρ → RepR K A (OwnS σ ρ) H0 G' H' v r → Q v H') : ∀ v G' H', Nx0 G H G' H' → RepN K A H G' H' v r → Q v H' := fun v G' H' n0 h => by
  have n1 := n.st.nx0 n0
  refine k v G' H' (n.trans n1) ?_
  have h' := h.r n.st
  unfold RepR at *
  split at h'
  · rename_i q
    rw [if_pos q]
    obtain ⟨p, e, h1, h2, h3, h4⟩ := h'
    refine ⟨p, e, h1, h2, h3, ?_⟩
    cases z : H0 p with
    | none => rfl
    | some o => exact absurd h4 (n.ext.there p (by rw [z]; exact fun x => nomatch x))
  · rename_i q
    rw [if_neg q]; exact h'
theorem bin_use {f : D → D → R Rv} {ma mb : Ev} (h : liftE K A (eBin f ma mb) σ H Q) : liftE K A ma σ H fun x H1 => liftE K A mb σ H1 fun y H2 => rD K A f x y H2 Q := by
  obtain ⟨G, ρ, r, ρ', s, e, k⟩ := h
  obtain ⟨⟨d1, ρ1⟩, e1, e⟩ := bind_ok e
  obtain ⟨⟨d2, ρ2⟩, e2, e⟩ := bind_ok e
  obtain ⟨r', e3, e⟩ := bind_ok e
  cases e
  refine use_val s e1 fun x G1 H1 n1 r1 => use_val n1.st e2 fun y G2 H2 n2 r2 => ⟨G2, d1, d2, r, n2.st.sub, r1.mono n2.gs, r2, e3, end_of (n1.trans n2) k⟩
theorem un_use {f : D → R Rv} {ma : Ev} (h : liftE K A (eUn f ma) σ H Q) : liftE K A ma σ H fun x H1 => rDu K A f x H1 Q := by
  obtain ⟨G, ρ, r, ρ', s, e, k⟩ := h
  obtain ⟨⟨d1, ρ1⟩, e1, e⟩ := bind_ok e
  obtain ⟨r', e3, e⟩ := bind_ok e
  cases e
  exact use_val s e1 fun x G1 H1 n1 r1 => ⟨G1, d1, r, n1.st.sub, r1, e3, end_of n1 k⟩
theorem n_use {f : List D → R Rv} {ms : List Ev} (h : liftE K A (eN f ms) σ H Q) : liftA K A ms σ H fun xs H1 => rDn K A f xs H1 Q := by
  obtain ⟨G, ρ, r, ρ', s, e, k⟩ := h
  obtain ⟨⟨ds, ρ1⟩, e1, e⟩ := bind_ok e
  obtain ⟨r', e3, e⟩ := bind_ok e
  cases e
  exact ⟨G, ρ, ds, _, s, e1, fun vs G1 H1 n1 r1 => ⟨G1, ds, r, n1.st.sub, r1, e3, end_of n1 k⟩⟩
variable {a b c : Expr} {ma mb mc : Ev} {pos : Pos}
theorem pd_bin {op : Operator} {f : D → D → R Rv} (hf : OpR X (binaryOp op) (rD X.K A f)) (ha : PD A X a ma) (hb : PD A X b mb) : PD A X (.BinOp a op b pos) (eBin f ma mb) := PE.imp (pe_op hf ha hb) fun _ _ _ => bin_use
theorem pd_un {op : UnaryOp} {f : D → R Rv} (hf : UnR X (unaryOp op) (rDu X.K A f)) (ha : PD A X a ma) : PD A X (.UnaryOp op a pos) (eUn f ma) := PE.imp (pe_un hf ha) fun _ _ _ => un_use
theorem pd_cmp {op : CmpOp} {f : D → D → R Rv} (hf : OpR X (compareOp op) (rD X.K A f)) (ha : PD A X a ma) (hb : PD A X b mb) (hm : behindInMarks op b = false) : PD A X (.Compare a [op] [b] pos) (eBin f ma mb) := PE.imp (pe_cmpR hf ha hb hm) fun _ _ _ => bin_use
/-- a test from a value -/
theorem test_use {m : Ev} {Q : Bool → Hp → Prop} (h : liftT K A m σ H Q) : liftE K A m σ H fun x H' => ∃ k, x = .bl k ∧ Q k H' := by
  obtain ⟨G, ρ, b, ρ', s, e, k⟩ := h
  refine use_val s e fun v G1 H1 n r => ?_
  cases r
  exact ⟨b, rfl, k G1 H1 n⟩
theorem pdt_cmp {op : CmpOp} {f : D → D → R Rv} (hf : OpR X (compareOp op) (rD X.K A f)) (ha : PD A X a ma) (hb : PD A X b mb) (hm : behindInMarks op b = false) : PDT A X (.Compare a [op] [b] pos) (eBin f ma mb) :=
  PT.imp (pt_cmpR hf ha hb hm) fun _ _ _ h => bin_use (test_use h)
theorem pdt_val (h : PD A X a ma) (he : ∀ whole, isTrue a X.env whole = (do let v ← whole; standAt a.pos; holding [v] (truthy v)) := by intro _; rfl) : PDT A X a ma := PT.imp (pt_val h he) fun _ _ _ h => test_use h
theorem isB_ok {x : D} {c : Bool} (h : isB x = .ok c) : x = .bl c := by
  cases x <;> first | cases h; rfl | cases h
theorem if_use {t : Ev} (h : liftE K A (eIf t ma mb) σ H Q) : liftT K A t σ H fun c H1 => if c = true then liftE K A ma σ H1 Q else liftE K A mb σ H1 Q := by
  obtain ⟨G, ρ, r, ρ', s, e, k⟩ := h
  obtain ⟨⟨x, ρ1⟩, e1, e⟩ := bind_ok e
  obtain ⟨c, e2, e⟩ := bind_ok e
  cases isB_ok e2
  refine ⟨G, ρ, c, ρ1, s, e1, fun G1 H1 n => ?_⟩
  have fin : ∀ {m : Ev}, m ρ1 = .ok (r, ρ') → liftE K A m σ H1 Q := fun {m} e => ⟨G1, ρ1, r, ρ', n.st, e, fun v G2 H2 n2 h => by
    refine k v G2 H2 (n.trans n2) ?_
    unfold RepR at *
    split at h
    · rename_i q
      rw [if_pos q]
      obtain ⟨p, e, h1, h2, h3, h4⟩ := h
      refine ⟨p, e, h1, h2, h3, ?_⟩
      cases z : H p with
      | none => rfl
      | some o => exact absurd h4 (n.ext.there p (by rw [z]; exact fun x => nomatch x))
    · rename_i q
      rw [if_neg q]; exact h⟩
  cases c with
  | true => exact iteT (fin e)
  | false => exact iteF (fin e)
theorem pd_if (hc : PDT A X c mc) (ha : PD A X a ma) (hb : PD A X b mb) : PD A X (.IfExp c a b pos) (eIf mc ma mb) := PE.imp (pe_ifExp hc ha hb) fun _ _ _ => if_use
/-- a result of a later part is one of the whole -/
theorem later {r : Rv} {v : V} (n : Nx K A σ G H ρ G1 H1 ρ1) (h : RepR K A (OwnS σ ρ') H1 G' H' v r) : RepR K A (OwnS σ ρ') H G' H' v r := by
  unfold RepR at *
  split at h
  · rename_i q
    rw [if_pos q]
    obtain ⟨p, e, h1, h2, h3, h4⟩ := h
    refine ⟨p, e, h1, h2, h3, ?_⟩
    cases z : H p with
    | none => rfl
    | some o => exact absurd h4 (n.ext.there p (by rw [z]; exact fun x => nomatch x))
  · rename_i q
    rw [if_neg q]; exact h
theorem and_use (h : liftE K A (eAnd ma mb) σ H Q) : liftE K A ma σ H fun x H1 => ∃ c, x = .bl c ∧ if c = true then liftE K A mb σ H1 Q else Q (.bl false) H1 := by
  obtain ⟨G, ρ, r, ρ', s, e, k⟩ := h
  obtain ⟨⟨x, ρ1⟩, e1, e⟩ := bind_ok e
  obtain ⟨c, e2, e⟩ := bind_ok e
  cases isB_ok e2
  refine use_val s e1 fun v G1 H1 n rv => ?_
  cases rv
  refine ⟨c, rfl, ?_⟩
  cases c with
  | true => exact iteT ⟨G1, ρ1, r, ρ', n.st, e, fun v G2 H2 n2 h => k v G2 H2 (n.trans n2) (later n h)⟩
  | false => cases e; exact iteF (k _ G1 H1 n (RepR.of (.bl false)))
theorem or_use (h : liftE K A (eOr ma mb) σ H Q) : liftE K A ma σ H fun x H1 => ∃ c, x = .bl c ∧ if c = true then Q (.bl true) H1 else liftE K A mb σ H1 Q := by
  obtain ⟨G, ρ, r, ρ', s, e, k⟩ := h
  obtain ⟨⟨x, ρ1⟩, e1, e⟩ := bind_ok e
  obtain ⟨c, e2, e⟩ := bind_ok e
  cases isB_ok e2
  refine use_val s e1 fun v G1 H1 n rv => ?_
  cases rv
  refine ⟨c, rfl, ?_⟩
  cases c with
  | true => cases e; exact iteT (k _ G1 H1 n (RepR.of (.bl true)))
  | false => exact iteF ⟨G1, ρ1, r, ρ', n.st, e, fun v G2 H2 n2 h => k v G2 H2 (n.trans n2) (later n h)⟩
theorem not_use (h : liftE K A (eNot ma) σ H Q) : liftE K A ma σ H fun x H1 => ∃ c, x = .bl c ∧ Q (.bl (!c)) H1 := by
  obtain ⟨G, ρ, r, ρ', s, e, k⟩ := h
  obtain ⟨⟨x, ρ1⟩, e1, e⟩ := bind_ok e
  obtain ⟨c, e2, e⟩ := bind_ok e
  cases isB_ok e2
  cases e
  refine use_val s e1 fun v G1 H1 n rv => ?_
  cases rv
  exact ⟨c, rfl, k _ G1 H1 n (RepR.of (.bl (!c)))⟩
variable {rest : List Expr}
theorem pd_and (ha : PD A X a ma) (hb : PD A X (.BoolOp .And (b :: rest) pos) mb) : PD A X (.BoolOp .And (a :: b :: rest) pos) (eAnd ma mb) := PE.imp (pe_and ha hb) fun _ _ _ => and_use
theorem pd_or (ha : PD A X a ma) (hb : PD A X (.BoolOp .Or (b :: rest) pos) mb) : PD A X (.BoolOp .Or (a :: b :: rest) pos) (eOr ma mb) := PE.imp (pe_or ha hb) fun _ _ _ => or_use
theorem pd_one {op} (h : PD A X a ma) : PD A X (.BoolOp op [a] pos) ma := pe_one h
theorem pd_not (ha : PD A X a ma) : PD A X (.UnaryOp .Not a pos) (eNot ma) := PE.imp (pe_not ha) fun _ _ _ => not_use
/-! tests of and, or, not -/
theorem val_ok {m : Ev} {d : D} (e : val m ρ = .ok (d, ρ')) : ∃ f, m ρ = .ok ((d, f), ρ') := by
  obtain ⟨⟨r, ρ1⟩, e1, e2⟩ := bind_ok e
  cases e2
  exact ⟨r.2, e1⟩
theorem val_of {m : Ev} {r : Rv} (e : m ρ = .ok (r, ρ')) : val m ρ = .ok (r.1, ρ') := by unfold val; rw [e]; rfl
theorem tand_use {Q : Bool → Hp → Prop} (h : liftT K A (eAnd ma mb) σ H Q) : liftT K A ma σ H fun c H1 => if c = true then liftT K A mb σ H1 Q else Q false H1 := by
  obtain ⟨G, ρ, b, ρ', s, e, k⟩ := h
  obtain ⟨f, e⟩ := val_ok e
  obtain ⟨⟨x, ρ1⟩, e1, e⟩ := bind_ok e
  obtain ⟨c, e2, e⟩ := bind_ok e
  cases isB_ok e2
  refine ⟨G, ρ, c, ρ1, s, e1, fun G1 H1 n => ?_⟩
  cases c with
  | true => exact iteT ⟨G1, ρ1, b, ρ', n.st, val_of e, fun G2 H2 n2 => k G2 H2 (n.trans n2)⟩
  | false => cases e; exact iteF (k G1 H1 n)
theorem tor_use {Q : Bool → Hp → Prop} (h : liftT K A (eOr ma mb) σ H Q) : liftT K A ma σ H fun c H1 => if c = true then Q true H1 else liftT K A mb σ H1 Q := by
  obtain ⟨G, ρ, b, ρ', s, e, k⟩ := h
  obtain ⟨f, e⟩ := val_ok e
  obtain ⟨⟨x, ρ1⟩, e1, e⟩ := bind_ok e
  obtain ⟨c, e2, e⟩ := bind_ok e
  cases isB_ok e2
  refine ⟨G, ρ, c, ρ1, s, e1, fun G1 H1 n => ?_⟩
  cases c with
  | true => cases e; exact iteT (k G1 H1 n)
  | false => exact iteF ⟨G1, ρ1, b, ρ', n.st, val_of e, fun G2 H2 n2 => k G2 H2 (n.trans n2)⟩
theorem tnot_use {Q : Bool → Hp → Prop} (h : liftT K A (eNot ma) σ H Q) : liftT K A ma σ H fun c H1 => Q (!c) H1 := by
  obtain ⟨G, ρ, b, ρ', s, e, k⟩ := h
  obtain ⟨f, e⟩ := val_ok e
  obtain ⟨⟨x, ρ1⟩, e1, e⟩ := bind_ok e
  obtain ⟨c, e2, e⟩ := bind_ok e
  cases isB_ok e2
  cases e
  exact ⟨G, ρ, c, _, s, e1, fun G1 H1 n => k G1 H1 n⟩
theorem PW.imp {X : Cx} {e : Expr} {t t' : TT} (h : PW X e t) (k : ∀ σ H Q, t' σ H Q → t σ H Q) : PW X e t' := ⟨fun wh pins s σ H Q I q => h.run wh pins s σ H Q I (k σ H Q q)⟩
abbrev PDW (A : CT) (X : Cx) (e : Expr) (m : Ev) : Prop := PW X e (liftT X.K A m)
theorem pdw_and1 (ha : PDT A X a ma) : PDW A X (.BoolOp .And [a] pos) ma := pw_and1 ha
theorem pdw_or1 (ha : PDT A X a ma) : PDW A X (.BoolOp .Or [a] pos) ma := pw_or1 ha
theorem pdw_and (ha : PDT A X a ma) (hb : PDW A X (.BoolOp .And (b :: rest) pos) mb) : PDW A X (.BoolOp .And (a :: b :: rest) pos) (eAnd ma mb) := PW.imp (pw_and ha hb) fun _ _ _ => tand_use
theorem pdw_or (ha : PDT A X a ma) (hb : PDW A X (.BoolOp .Or (b :: rest) pos) mb) : PDW A X (.BoolOp .Or (a :: b :: rest) pos) (eOr ma mb) := PW.imp (pw_or ha hb) fun _ _ _ => tor_use
theorem pdt_w (h : PDW A X a ma) : PDT A X a ma := h.pt
theorem pdt_not (ha : PDT A X a ma) : PDT A X (.UnaryOp .Not a pos) (eNot ma) := PT.imp (pt_not ha) fun _ _ _ => tnot_use
/-! a chain -/
/-! arguments -/
theorem pda_nil : PDA A X [] [] := PA.imp pa_nil fun σ H Q h => by
  obtain ⟨G, ρ, ds, ρ', s, e, k⟩ := h
  cases e
  exact k [] G H (Nx.refl s) .nil
theorem cons_use {m : Ev} {ms : List Ev} {Q : List V → Hp → Prop} (h : liftA K A (m :: ms) σ H Q) : tCons (liftE K A m) (liftA K A ms) σ H Q := by
  obtain ⟨G, ρ, ds, ρ', s, e, k⟩ := h
  obtain ⟨⟨d, ρ1⟩, e1, e⟩ := bind_ok e
  obtain ⟨⟨ds', ρ2⟩, e2, e⟩ := bind_ok e
  cases e
  exact use_val s e1 fun v G1 H1 n r => ⟨G1, ρ1, ds', _, n.st, e2, fun vs G2 H2 n2 rs => k _ G2 H2 (n.trans n2) (.cons (r.mono n2.gs) rs)⟩
theorem pda_cons {es : List Expr} {ms : List Ev} (ha : PD A X a ma) (hr : PDA A X es ms) (hs : starEach (a :: es) X.env = (false, eval a X.env) :: starEach es X.env := by rfl) : PDA A X (a :: es) (ma :: ms) := PA.imp (pa_cons ha hr hs) fun _ _ _ => cons_use
/-! displays -/
def mkTup (ds : List D) : R Rv := if ds.length ≤ 1000 then .ok (.tup ds, false) else .no
def mkKey (ds : List D) : R Rv := if ds.length ≤ 1000 then .ok (.kt ds, false) else .no
def mkLst (ds : List D) : R Rv := if ds.length ≤ 1000 then .ok (.lst ds, true) else .no
theorem upd_nx0 {p : Addr} {o : HO} (s : Sub G H) (n : H p = none) : Nx0 G H G (upd H p o) ∧ G p = none := by
  have gn : G p = none := by
    cases q : G p with
    | none => rfl
    | some u => obtain ⟨x, e⟩ := s.ex q; rw [n] at e; cases e
  refine ⟨⟨⟨fun _ _ h => h, fun _ h => .inl h, fun q u h _ _ => by rw [upd_ne (ne_of_none h n)]; exact h, fun q h => ?_⟩, ⟨fun q u h => ?_, nT.new n s.tb, s.nt, s.bs⟩⟩, gn⟩
  · by_cases z : q = p
    · subst z; rw [upd_same]; exact fun x => nomatch x
    · rw [upd_ne z]; exact h
  · have : q ≠ p := fun z => by subst z; rw [gn] at h; cases h
    rw [upd_ne this]
    exact s q u h
theorem nx0_new {p : Addr} {o : HO} (s : Sub G H) (n : H p = none) (t : nT o := by trivial) : Nx0 G H (upd G p o) (upd H p o) := by
  obtain ⟨x, gn⟩ := upd_nx0 (o := o) s n
  refine ⟨⟨SL.Same.new gn, fun q hq => ?_, x.ext.hs, x.ext.there⟩, ⟨fun q u h => ?_, x.sub.tb, x.sub.nt_new t, x.sub.bs.trans (SL.Same.new gn)⟩⟩
  · by_cases z : q = p
    · subst z; exact .inr (.inl n)
    · rw [upd_ne z] at hq; exact .inl hq
  · by_cases z : q = p
    · subst z; rw [upd_same] at h; cases h; exact .inl upd_same
    · rw [upd_ne z] at h; exact x.sub q u h
/-- a new tuple; one that is to be a key -/
theorem new_tup {p : Addr} {o : Obj} {vs : List V} {ds : List D} (s : Sub G H) (n : H p = none) (ho : o.dict = none) (r : Reps K A G vs ds) : Nx0 G H (upd G p (.frz o (.tup vs))) (upd H p (.frz o (.tup vs))) ∧ Rep K A (upd G p (.frz o (.tup vs))) (.ref p) (.tup ds) :=
  ⟨nx0_new s n, .tup ho upd_same (r.mono (SL.Same.new (upd_nx0 (o := .tup vs) s n).2))⟩
theorem new_key {p : Addr} {vs : List V} {ds : List D} (s : Sub G H) (n : H p = none) (r : Reps K A G vs ds) : Nx0 G H (upd G p (.tup vs)) (upd H p (.tup vs)) ∧ Rep K A (upd G p (.tup vs)) (.ref p) (.kt ds) :=
  ⟨nx0_new s n, .kt upd_same (r.mono (SL.Same.new (upd_nx0 (o := .tup vs) s n).2))⟩
theorem new_lst {p : Addr} {vs : List V} {ds : List D} (s : Sub G H) (n : H p = none) (r : Reps K A G vs ds) : Nx0 G H G (upd H p (.lst vs)) ∧ RepN K A H G (upd H p (.lst vs)) (.ref p) (.lst ds, true) :=
  ⟨(upd_nx0 s n).1, RepR.new (upd_nx0 (o := .lst vs) s n).2 ⟨vs, upd_same, r⟩ id n⟩
theorem tup_r {vs : List V} (h : rDn K A mkTup vs H Q) : vs.length ≤ sizeLine ∧ ∀ p o, o.dict = none → H p = none → Q (.ref p) (upd H p (.frz o (.tup vs))) := by
  obtain ⟨G, ds, r, s, rs, e, k⟩ := h
  unfold mkTup at e
  split at e
  · cases e
    rename_i q
    refine ⟨SL.szL (by rw [rs.len]; exact q), fun p o ho n => ?_⟩
    obtain ⟨n0, rr⟩ := new_tup (K := K) (A := A) s n ho rs
    exact k _ _ _ n0 (RepR.of rr)
  · cases e
def tTupF (t : TA) : TE := fun σ H Q => t σ H fun xs H1 => xs.length ≤ sizeLine ∧ ∀ p o, o.dict = none → H1 p = none → Q (.ref p) (upd H1 p (.frz o (.tup xs)))
theorem pe_tupF {X : Cx} {es : List Expr} {t : TA} {pos : Pos} {x1} (h : PA X es t) : PE X (.Tuple es x1 pos) (tTupF t) := by
  refine ⟨fun pins s σ H Q I hq => ?_⟩
  refine wpAny_Tuple_spliced (thn (h.run pos pins s σ H _ I hq) fun us s1 ⟨xs, H1, I1, r, z, q⟩ => ⟨by rw [← r.length]; exact z, ?_⟩)
  have hf : H1 s1.heap.objs.size = none := I1.hok.fresh (Nat.le_refl _)
  refine ⟨.ref s1.heap.objs.size, upd H1 s1.heap.objs.size (.frz { cls := .type "tuple", data := .seq us.toArray } (.tup xs)), I1.laid (t' := s1.toks) (fun b u e => Heap.get?_push_of_some _ e) (Nat.le_refl _) ?_, rfl, q _ _ rfl hf⟩
  exact ⟨Heap.get?_push_size _ rfl, z, us, r, ⟨_, Heap.get?_push_size _ rfl, rfl, _, rfl⟩⟩
theorem lst_r {vs : List V} (h : rDn K A mkLst vs H Q) : vs.length ≤ sizeLine ∧ ∀ p, H p = none → Q (.ref p) (upd H p (.lst vs)) := by
  obtain ⟨G, ds, r, s, rs, e, k⟩ := h
  unfold mkLst at e
  split at e
  · cases e
    rename_i q
    refine ⟨SL.szL (by rw [rs.len]; exact q), fun p n => ?_⟩
    obtain ⟨n0, rr⟩ := new_lst (K := K) (A := A) s n rs
    exact k _ _ _ n0 rr
  · cases e
theorem TA_mono {ms : List Ev} {Q Q' : List V → Hp → Prop} (h : liftA K A ms σ H Q) (k : ∀ vs H', Q vs H' → Q' vs H') : liftA K A ms σ H Q' := by
  obtain ⟨G, ρ, ds, ρ', s, e, z⟩ := h
  exact ⟨G, ρ, ds, ρ', s, e, fun vs G' H' n r => k _ _ (z vs G' H' n r)⟩
theorem pd_tup {es : List Expr} {ms : List Ev} {x1} (h : PDA A X es ms) : PD A X (.Tuple es x1 pos) (eN mkTup ms) := PE.imp (pe_tupF h) fun _ _ _ q => TA_mono (n_use q) fun _ _ => tup_r
theorem pd_lst {es : List Expr} {ms : List Ev} (h : PDA A X es ms) : PD A X (.List es pos) (eN mkLst ms) := PE.imp (pe_lst h) fun _ _ _ q => TA_mono (n_use q) fun _ _ => lst_r
/-! calls of built-ins -/
variable {x : Str} {p : Pos} {es : List Expr} {ms : List Ev} {id T : String}
theorem pd_callB {f : List D → R Rv} (hc : CallR X (.builtin id) (rDn X.K A f)) (hg : Gl X x) (hm : X.mg x = none) (hv : bootBuiltins x = some (.builtin id)) (ha : PDA A X (a :: es) ms) (hn : x ≠ "__name__" := by decide) (hdb : (x == ("__debug__" : Str)) = false := by decide)
    (he : starEach (a :: es) X.env = (false, eval a X.env) :: starEach es X.env := by rfl) (hpl : (backTo pos (starEach es X.env)).any (·.1) = false := by rfl) : PD A X (.Call (.Name x p) (a :: es) [] pos) (eN f ms) := PE.imp (pe_callB hc hg hm hv ha hn hdb he hpl) fun _ _ _ => n_use
theorem pd_callTy {f : List D → R Rv} (hc : CallR X (.type T) (rDn X.K A f)) (hg : Gl X x) (hm : X.mg x = none) (hv : bootBuiltins x = some (.type T)) (ha : PDA A X (a :: es) ms) (hn : x ≠ "__name__" := by decide) (hdb : (x == ("__debug__" : Str)) = false := by decide)
    (he : starEach (a :: es) X.env = (false, eval a X.env) :: starEach es X.env := by rfl) (hpl : (backTo pos (starEach es X.env)).any (·.1) = false := by rfl) : PD A X (.Call (.Name x p) (a :: es) [] pos) (eN f ms) := PE.imp (pe_callTy hc hg hm hv ha hn hdb he hpl) fun _ _ _ => n_use
end
end DY

set_option linter.all false
/-! ### the operations on data -/
namespace DY
/-- no own operator -/
def no2 : D → D → R Rv := fun _ _ => .no
def no1 : D → R Rv := fun _ => .no
def int_ (i : Int) : R Rv := .ok (.int i, false)
def bl_ (b : Bool) : R Rv := .ok (.bl b, false)
def str_ (l : List Nat) : R Rv := .ok (.str l, false)
def mulOk (i j : Int) : Bool := decide (i.natAbs.log2 + j.natAbs.log2 < 1000000)
def divOk (j : Int) : Bool := decide (j ≠ 0) && decide (j.natAbs.log2 < 9000)
def addD (own : D → D → R Rv) : D → D → R Rv
  | .int i, .int j => int_ (i + j)
  | .str a, .str b => if a.length + b.length ≤ 100000 then str_ (a ++ b) else .no
  | .lst a, .lst b => if a.length + b.length ≤ 1000 then .ok (.lst (a ++ b), true) else .no
  | .tup a, .tup b => if a.length + b.length ≤ 1000 then .ok (.tup (a ++ b), false) else .no
  | x, y => own x y
def subD (own : D → D → R Rv) : D → D → R Rv
  | .int i, .int j => int_ (i - j)
  | x, y => own x y
def mulD (own : D → D → R Rv) : D → D → R Rv
  | .int i, .int j => if mulOk i j then int_ (i * j) else .no
  | .lst a, .int k => if 0 ≤ k ∧ k ≤ 1000 ∧ a.length * k.toNat ≤ 1000 then .ok (.lst (List.replicate k.toNat a).flatten, true) else .no
  | x, y => own x y
def fdivD : D → D → R Rv
  | .int i, .int j => if divOk j then int_ (i.fdiv j) else .no
  | _, _ => .no
def modD : D → D → R Rv
  | .int i, .int j => if j = 0 then .no else int_ (i.fmod j)
  | _, _ => .no
def powD : D → D → R Rv
  | .int i, .int j => if 0 ≤ j ∧ j ≤ 1000 ∧ i.natAbs < 18446744073709551616 then int_ (i ^ j.toNat) else .no
  | _, _ => .no
def negD (own : D → R Rv) : D → R Rv
  | .int i => int_ (-i)
  | x => own x
/-! order -/
def ltN : List Nat → List Nat → Bool
  | [], [] => false
  | [], _ :: _ => true
  | _ :: _, [] => false
  | a :: r, b :: t => decide (a < b) || (decide (a = b) && ltN r t)
def ltD : D → D → R Rv
  | .int i, .int j => bl_ (decide (i < j))
  | .str a, .str b => bl_ (ltN a b)
  | _, _ => .no
def leD : D → D → R Rv
  | .int i, .int j => bl_ (decide (i ≤ j))
  | .str a, .str b => bl_ (!ltN b a)
  | _, _ => .no
def gtD : D → D → R Rv
  | .int i, .int j => bl_ (decide (j < i))
  | .str a, .str b => bl_ (ltN b a)
  | _, _ => .no
def geD : D → D → R Rv
  | .int i, .int j => bl_ (decide (j ≤ i))
  | .str a, .str b => bl_ (!ltN a b)
  | _, _ => .no
/-! equality of plain data -/
def sok (l : List Nat) : Bool := l.all fun c => decide (c < 1114112)
mutual
def dok : Nat → D → Bool
  | _, .non => true
  | _, .bl _ => true
  | _, .int _ => true
  | _, .str l => sok l
  | n + 1, .tup xs => doks n xs
  | n + 1, .kt xs => doks n xs
  | n + 1, .lst xs => doks n xs
  | n + 1, .fls xs => doks n xs
  | _, _ => false
def doks : Nat → List D → Bool
  | _, [] => true
  | n, x :: xs => dok n x && doks n xs
end
mutual
def eqv : D → D → Bool
  | .non, .non => true
  | .bl a, .bl b => a == b
  | .bl a, .int j => (if a then 1 else 0) == j
  | .int i, .bl b => i == (if b then 1 else 0)
  | .int i, .int j => i == j
  | .str a, .str b => a == b
  | .tup a, .tup b => eqvs a b
  | .tup a, .kt b => eqvs a b
  | .kt a, .tup b => eqvs a b
  | .kt a, .kt b => eqvs a b
  | .lst a, .lst b => eqvs a b
  | .lst a, .fls b => eqvs a b
  | .fls a, .lst b => eqvs a b
  | .fls a, .fls b => eqvs a b
  | _, _ => false
def eqvs : List D → List D → Bool
  | [], [] => true
  | x :: xs, y :: ys => eqv x y && eqvs xs ys
  | _, _ => false
end
def dep : Nat := 40
def eqG (own : D → D → R Rv) (x y : D) : R Rv := if dok dep x && dok dep y then bl_ (eqv x y) else own x y
def eqD (own : D → D → R Rv) : D → D → R Rv
  | .int i, .int j => bl_ (decide (i = j))
  | .str a, .str b => bl_ (decide (a = b))
  | .bl a, .bl b => bl_ (decide (a = b))
  | x, y => eqG own x y
def neG (own : D → D → R Rv) (x y : D) : R Rv := if dok dep x && dok dep y then bl_ (!eqv x y) else do
  let r ← own x y
  let b ← isB r.1
  bl_ (!b)
def neD (own : D → D → R Rv) : D → D → R Rv
  | .int i, .int j => bl_ (!decide (i = j))
  | .str a, .str b => bl_ (!decide (a = b))
  | .bl a, .bl b => bl_ (!decide (a = b))
  | x, y => neG own x y
def isN : D → D → R Rv
  | .any, .non => .no
  | .non, .non => bl_ true
  | _, .non => bl_ false
  | _, _ => .no
def notN : D → D → R Rv
  | .any, .non => .no
  | .non, .non => bl_ false
  | _, .non => bl_ true
  | _, _ => .no
/-! in -/
def flat : D → Bool
  | .non => true
  | .bl _ => true
  | .int _ => true
  | .str _ => true
  | _ => false
def inB : D → D → R Bool
  | .str [c], .str s => .ok (decide (c ∈ s))
  | .int i, .dic kvs => .ok (dget kvs (.inl i)).isSome
  | .str s, .dic kvs => .ok (dget kvs (.inr s)).isSome
  | .kt ks, .dct kvs => do
    let k ← keysOf ks
    pure (dget kvs k).isSome
  | x, .tup ds => if flat x && ds.all flat then .ok (ds.any fun z => eqv z x) else .no
  | x, .lst ds => if dok dep x && doks dep ds then .ok (ds.any fun z => eqv z x) else .no
  | x, .fls ds => if dok dep x && doks dep ds then .ok (ds.any fun z => eqv z x) else .no
  | _, _ => .no
def inD (x y : D) : R Rv := do let b ← inB x y; bl_ b
def ninD (x y : D) : R Rv := do let b ← inB x y; bl_ (!b)
/-! x[i] -/
def ixN (n : Nat) (i : Int) : Option Nat := if 0 ≤ i then (if i < n then some i.toNat else none) else if -(n : Int) ≤ i then some (i + n).toNat else none
def atI {α : Type} (xs : List α) (i : Int) : Option α := (ixN xs.length i).bind fun j => xs[j]?
def opt : Option D → R Rv
  | some d => .ok (d, false)
  | none => .no
def ixD : D → D → R Rv
  | .lst xs, .int i => opt (atI xs i)
  | .fls xs, .int i => opt (atI xs i)
  | .tup xs, .int i => opt (atI xs i)
  | .str s, .int i => if s.length ≤ 100000 then opt ((atI s i).map fun c => .str [c]) else .no
  | .dic kvs, .int i => opt (dget kvs (.inl i))
  | .dic kvs, .str s => opt (dget kvs (.inr s))
  | .dct kvs, .kt ks => do
    let k ← keysOf ks
    opt (dget kvs k)
  | _, _ => .no
/-! slices -/
def sIx (n d : Nat) : Option Int → Nat
  | none => d
  | some v => if v < 0 then (v + n).toNat else min v.toNat n
def cut {α : Type} (xs : List α) (lo hi : Option Int) : List α := (xs.drop (sIx xs.length 0 lo)).take (sIx xs.length xs.length hi - sIx xs.length 0 lo)
def sliceD (lo hi : Option Int) : D → R Rv
  | .lst xs => .ok (.lst (cut xs lo hi), true)
  | .fls xs => .ok (.lst (cut xs lo hi), true)
  | .tup xs => .ok (.tup (cut xs lo hi), false)
  | .str s => if s.length ≤ 100000 then str_ (cut s lo hi) else .no
  | _ => .no
def part : Option Ev → Env → R (Option Int × Env)
  | none, ρ => .ok (none, ρ)
  | some e, ρ => do
    let (x, ρ1) ← val e ρ
    match x with
    | .int i => .ok (some i, ρ1)
    | _ => .no
def eSlice (a : Ev) (lo hi : Option Ev) : Ev := fun ρ => do
  let (x, ρ1) ← val a ρ
  let (l, ρ2) ← part lo ρ1
  let (h, ρ3) ← part hi ρ2
  let r ← sliceD l h x
  pure (r, ρ3)
/-! built-ins -/
def lenB (own : D → R Rv) : D → R Rv
  | .str s => if s.length ≤ 100000 then int_ s.length else .no
  | .lst xs => int_ xs.length
  | .fls xs => int_ xs.length
  | .tup xs => int_ xs.length
  | .dic xs => int_ xs.length
  | x => own x
def lenD (own : D → R Rv) : List D → R Rv
  | [x] => lenB own x
  | _ => .no
def isB1 : BT → D → Option Bool
  | .int, .int _ => some true
  | .int, .bl _ => some true
  | .bool, .bl _ => some true
  | .str, .str _ => some true
  | .tuple, .tup _ => some true
  | .list, .lst _ => some true
  | .dict, .dic _ => some true
  | _, .ty _ => none
  | _, .cls _ => none
  | _, .fls _ => none
  | _, .dct _ => none
  | _, .kt _ => none
  | _, .any => none
  | .set, _ => none
  | .xv, _ => none
  | .xl, _ => none
  | .xa, _ => none
  | _, _ => some false
def isiD : List D → R Rv
  | [x, .ty t] => match isB1 t x with
    | some b => bl_ b
    | none => .no
  | [.ins c _, .cls c'] => bl_ (decide (c = c'))
  | [.fls _, .cls _] => .no
  | [.dct _, .cls _] => .no
  | [.kt _, .cls _] => .no
  | [.ty _, .cls _] => .no
  | [.cls _, .cls _] => .no
  | [.any, .cls _] => .no
  | [_, .cls _] => bl_ false
  | _ => .no
def absD : List D → R Rv
  | [.int i] => int_ (if i < 0 then -i else i)
  | _ => .no
def maxD : List D → R Rv
  | [.int i, .int j] => int_ (if j > i then j else i)
  | _ => .no
def minD : List D → R Rv
  | [.int i, .int j] => int_ (if j < i then j else i)
  | _ => .no
def intD : List D → R Rv
  | [.int i] => int_ i
  | [.bl k] => int_ (if k then 1 else 0)
  | _ => .no
def boolsOf : List D → R (List Bool)
  | [] => .ok []
  | .bl b :: ds => do let bs ← boolsOf ds; pure (b :: bs)
  | _ => .no
def allD : List D → R Rv
  | [.lst ds] => do let bs ← boolsOf ds; bl_ (bs.all id)
  | _ => .no
def anyD : List D → R Rv
  | [.lst ds] => do let bs ← boolsOf ds; bl_ (bs.any id)
  | _ => .no
def strsOf : List D → R (List (List Nat))
  | [] => .ok []
  | .str b :: ds => do let bs ← strsOf ds; pure (b :: bs)
  | _ => .no
def insS (x : List Nat) : List (List Nat) → List (List Nat)
  | [] => [x]
  | y :: ys => if ltN y x then y :: insS x ys else x :: y :: ys
def tupleD : List D → R Rv
  | [.lst ds] => .ok (.tup ds, false)
  | [.tup ds] => .ok (.tup ds, false)
  | _ => .no
def pairs : List D → R (List (Ky × D))
  | [] => .ok []
  | .tup [k, v] :: ds => do
    let q ← keyOf k
    let r ← pairs ds
    pure ((q, v) :: r)
  | _ => .no
/-- the figures of a number -/
def figs (i : Int) : List Nat := (toString i).toList.map Char.toNat
def strD (own : D → R Rv) : List D → R Rv
  | [.int i] => if i.natAbs.log2 < 1920 then str_ (figs i) else .no
  | [.str s] => str_ s
  | [x] => own x
  | _ => .no
/-! methods -/
def joinS (a : List Nat) : List (List Nat) → List Nat
  | [] => []
  | x :: xs => xs.foldl (fun acc y => acc ++ a ++ y) x
def joinD : D → List D → R Rv
  | .str a, [.lst ds] => do
    let ss ← strsOf ds
    if (ss.map (·.length)).sum + ss.length * a.length ≤ 100000 then str_ (joinS a ss) else .no
  | _, _ => .no
def dgetD : D → D → D → R Rv
  | .dic kvs, .int i, z => .ok ((dget kvs (.inl i)).getD z, false)
  | .dic kvs, .str s, z => .ok ((dget kvs (.inr s)).getD z, false)
  | .dct kvs, .kt ks, z => do
    let k ← keysOf ks
    .ok ((dget kvs k).getD z, false)
  | _, _, _ => .no
/-! changes -/
def appendM : D → List D → R (D × D)
  | .lst xs, [y] => if xs.length < 1000 then .ok (.non, .lst (xs ++ [y])) else .no
  | _, _ => .no
def popM : D → List D → R (D × D)
  | .lst xs, [] => match xs[xs.length - 1]? with
    | some y => .ok (y, .lst xs.dropLast)
    | none => .no
  | .lst xs, [.int i] => if xs.length ≤ 1000 then match ixN xs.length i with
    | some j => match xs[j]? with
      | some y => .ok (y, .lst (xs.eraseIdx j))
      | none => .no
    | none => .no
    else .no
  | _, _ => .no
def putM : D → D → D → R D
  | .lst xs, .int i, v => match ixN xs.length i with
    | some j => .ok (.lst (xs.set j v))
    | none => .no
  | .dic kvs, .int i, v => if kvs.length < 1000 then .ok (.dic (dput kvs (.inl i) v)) else .no
  | .dic kvs, .str s, v => if kvs.length < 1000 then .ok (.dic (dput kvs (.inr s) v)) else .no
  | .dct kvs, .kt ks, v => do
    let k ← keysOf ks
    if kvs.length < 1000 then .ok (.dct (dput kvs k v)) else .no
  | _, _, _ => .no
def fldD (c k : Nat) : D → R Rv
  | .ins c' fs => if c = c' then opt fs[k]? else .no
  | _ => .no
/-! what is walked -/
def items : D → R (List D)
  | .lst ds => .ok ds
  | .fls ds => .ok ds
  | .tup ds => .ok ds
  | .str s => .ok (s.map fun c => .str [c])
  | _ => .no
def iVal (e : Ev) : Iv := fun ρ => do
  let (x, ρ1) ← val e ρ
  let ds ← items x
  pure (ds, ρ1)
def rng (lo : Int) : Nat → List D
  | 0 => []
  | n + 1 => .int lo :: rng (lo + 1) n
def iRange (as : List Ev) : Iv := fun ρ => do
  let (xs, ρ1) ← evs as ρ
  match xs with
  | [.int j] => if -(2 ^ 62) ≤ j ∧ j < 2 ^ 62 then .ok (rng 0 j.toNat, ρ1) else .no
  | [.int i, .int j] => if (-(2 ^ 62) ≤ i ∧ i < 2 ^ 62) ∧ -(2 ^ 62) ≤ j ∧ j < 2 ^ 62 then .ok (rng i (j - i).toNat, ρ1) else .no
  | _ => .no
/-- the keys of the dict at slot i -/
def iKeys (i : Nat) : Iv := fun ρ =>
  match ρ[i]? with
  | some (.sh (.dic kvs)) => .ok (kvs.map fun kv => kyD kv.1, ρ)
  | some (.ow (.dic kvs)) => .ok (kvs.map fun kv => kyD kv.1, ρ.set i (.sh (.dic kvs)))
  | _ => .no
end DY

set_option Elab.async false
set_option linter.all false
set_option maxRecDepth 100000
set_option maxHeartbeats 4000000
/-! ### the operations are those of the model -/
namespace DY
open PySem L2 PySem.Spec PyProof.Rows
variable [Tb]
variable {X : Cx} {A : CT}
theorem szK {n : Nat} (h : n ≤ 100000) : n ≤ sizeLine := by rw [sizeLine_eq]; omega
theorem S_app (a b : List Nat) : S a ++ S b = S (a ++ b) := by
  show (⟨a.toArray ++ b.toArray⟩ : Str) = ⟨(a ++ b).toArray⟩
  simp
theorem S_len (a : List Nat) : (S a).length = a.length := by show a.toArray.size = a.length; simp
theorem S_toList (a : List Nat) : (S a).cps.toList = a := by show a.toArray.toList = a; simp
def rCatF (K : PySem.W.Frag) : R2 := fun x y H Q => ∃ a b xs ys, x = .ref a ∧ y = .ref b ∧ SqT K H a xs ∧ SqT K H b ys ∧ xs.length + ys.length ≤ sizeLine ∧ (xs = [] → Q (.ref b) H) ∧ (xs ≠ [] → ys = [] → Q (.ref a) H) ∧ (xs ≠ [] → ys ≠ [] → ∀ p o, o.dict = none → H p = none → Q (.ref p) (upd H p (.frz o (.tup (xs ++ ys)))))
theorem op_catF : OpR X (binaryOp .Add) (rCatF X.K) := by
  intro pins s σ H x y v u Q I rx ry h
  obtain ⟨a, b, xs, ys, rfl, rfl, ha, hb, hz, q0, q1, q2⟩ := h
  cases rx
  cases ry
  obtain ⟨its, r1, p1, _⟩ := I.tuple ha
  obtain ⟨its2, r2, p2, _⟩ := I.tuple hb
  by_cases hx : xs = []
  · subst hx
    cases r1
    exact cat_tup0 p1 p2 ⟨.ref b, H, I, rfl, q0 rfl⟩
  · refine HT.cat_tup p1 p2 (fun z => hx (r1.nil_iff.mp z)) (fun z => ⟨.ref a, H, I, rfl, q1 hx (r2.nil_iff.mp z)⟩) (fun z => ?_) (by rw [← r1.length, ← r2.length]; exact hz)
    refine ⟨.ref s.heap.objs.size, _, I.laid (t' := s.toks) (o := .frz { cls := .type "tuple", data := .seq (its ++ its2).toArray } (.tup (xs ++ ys))) (fun b ob q => Heap.get?_push_of_some _ q) (Nat.le_refl _) ?_, rfl, q2 hx (fun w => z (r2.nil_iff.mpr w)) _ _ rfl (I.hok.fresh (Nat.le_refl _))⟩
    exact ⟨Heap.get?_push_size _ rfl, by rw [List.length_append]; exact hz, _, r1.append r2, IsTup.new _ _⟩
section
variable {own : D → D → R Rv}
theorem o_add (ho : OpR X (binaryOp .Add) (rD X.K A own)) : OpR X (binaryOp .Add) (rD X.K A (addD own)) := by
  intro pins s σ H x y v u Q I rx ry h
  obtain ⟨G, d1, d2, r, sb, r1, r2, e, k⟩ := id h
  unfold addD at e
  split at e
  · cases r1; cases r2; cases e
    exact op_add pins s σ H _ _ v u Q I rx ry ⟨_, _, rfl, rfl, same_end sb (.int _) k⟩
  · cases r1; cases r2
    rename_i a b
    split at e
    · rename_i q
      cases e
      exact SL.op_addSt pins s σ H _ _ v u Q I rx ry ⟨_, _, rfl, rfl, by rw [S_len, S_len]; exact szK q, by rw [S_app]; exact same_end sb (.str _) k⟩
    · cases e
  · cases r1 with | lst h1 q1 => cases r2 with | lst h2 q2 =>
    split at e
    · rename_i q
      cases e
      refine op_cat pins s σ H _ _ v u Q I rx ry ⟨_, _, _, _, rfl, rfl, sb.lst h1, sb.lst h2, SL.szL (by rw [q1.len, q2.len]; exact q), fun p n => ?_⟩
      obtain ⟨n0, rr⟩ := new_lst (K := X.K) (A := A) sb n (q1.append q2)
      exact k _ _ _ n0 rr
    · cases e
  · obtain ⟨p1, vs1, rfl, h1, q1⟩ := r1.sqT sb
    obtain ⟨p2, vs2, rfl, h2, q2⟩ := r2.sqT sb
    split at e
    · rename_i q
      cases e
      refine op_catF pins s σ H _ _ v u Q I rx ry ⟨_, _, _, _, rfl, rfl, h1, h2, SL.szL (by rw [q1.len, q2.len]; exact q), fun z => ?_, fun _ z => ?_, fun _ _ p o ho n => ?_⟩
      · subst z
        cases q1
        exact same_end sb r2 k
      · subst z
        cases q2
        rw [List.append_nil] at k
        exact same_end sb r1 k
      · obtain ⟨n0, rr⟩ := new_tup (K := X.K) (A := A) sb n ho (q1.append q2)
        exact k _ _ _ n0 (RepR.of rr)
    · cases e
  · exact ho pins s σ H x y v u Q I rx ry ⟨G, d1, d2, r, sb, r1, r2, e, k⟩
theorem o_sub (ho : OpR X (binaryOp .Sub) (rD X.K A own)) : OpR X (binaryOp .Sub) (rD X.K A (subD own)) := by
  intro pins s σ H x y v u Q I rx ry h
  obtain ⟨G, d1, d2, r, sb, r1, r2, e, k⟩ := id h
  unfold subD at e
  split at e
  · cases r1; cases r2; cases e
    exact op_sub pins s σ H _ _ v u Q I rx ry ⟨_, _, rfl, rfl, same_end sb (.int _) k⟩
  · exact ho pins s σ H x y v u Q I rx ry ⟨G, d1, d2, r, sb, r1, r2, e, k⟩
theorem reps_rep {G : Hp} {vs : List V} {ds : List D} (h : Reps X.K A G vs ds) (n : Nat) : Reps X.K A G (List.replicate n vs).flatten (List.replicate n ds).flatten := by
  induction n with
  | zero => exact .nil
  | succ n ih => rw [List.replicate_succ, List.replicate_succ, List.flatten_cons, List.flatten_cons]; exact h.append ih
theorem o_mul (ho : OpR X (binaryOp .Mult) (rD X.K A own)) : OpR X (binaryOp .Mult) (rD X.K A (mulD own)) := by
  intro pins s σ H x y v u Q I rx ry h
  obtain ⟨G, d1, d2, r, sb, r1, r2, e, k⟩ := id h
  unfold mulD at e
  split at e
  · cases r1; cases r2
    split at e
    · rename_i q
      cases e
      exact op_mulW pins s σ H _ _ v u Q I rx ry ⟨_, _, rfl, rfl, (by unfold mulOk at q; unfold CMulW; exact of_decide_eq_true q), same_end sb (.int _) k⟩
    · cases e
  · rename_i a0 k'
    cases r2
    cases r1 with | lst h1 q1 =>
    split at e
    · rename_i q
      cases e
      refine op_rep pins s σ H _ _ v u Q I rx ry ⟨_, _, _, rfl, rfl, sb.lst h1, by omega, by omega, SL.szL (by rw [q1.len]; exact q.2.2), fun p n => ?_⟩
      obtain ⟨n0, rr⟩ := new_lst (K := X.K) (A := A) sb n (reps_rep q1 k'.toNat)
      exact k _ _ _ n0 rr
    · cases e
  · exact ho pins s σ H x y v u Q I rx ry ⟨G, d1, d2, r, sb, r1, r2, e, k⟩
theorem o_no {f : Value → Value → Sem Value} : OpR X f (rD X.K A no2) := by
  intro pins s σ H x y v u Q I rx ry h
  obtain ⟨G, d1, d2, r, sb, r1, r2, e, k⟩ := h
  cases e
end
theorem o_fdiv : OpR X (binaryOp .FloorDiv) (rD X.K A fdivD) := by
  intro pins s σ H x y v u Q I rx ry h
  obtain ⟨G, d1, d2, r, sb, r1, r2, e, k⟩ := id h
  unfold fdivD at e
  split at e
  · cases r1; cases r2
    split at e
    · rename_i q
      cases e
      unfold divOk at q
      rw [Bool.and_eq_true] at q
      exact SL.op_fdivX pins s σ H _ _ v u Q I rx ry ⟨_, _, rfl, rfl, ⟨of_decide_eq_true q.1, of_decide_eq_true q.2⟩, same_end sb (.int _) k⟩
    · cases e
  · cases e
theorem o_mod : OpR X (binaryOp .Mod) (rD X.K A modD) := by
  intro pins s σ H x y v u Q I rx ry h
  obtain ⟨G, d1, d2, r, sb, r1, r2, e, k⟩ := id h
  unfold modD at e
  split at e
  · cases r1; cases r2
    split at e
    · cases e
    · rename_i q
      cases e
      exact op_modN pins s σ H _ _ v u Q I rx ry ⟨_, _, rfl, rfl, q, same_end sb (.int _) k⟩
  · cases e
theorem o_pow : OpR X (binaryOp .Pow) (rD X.K A powD) := by
  intro pins s σ H x y v u Q I rx ry h
  obtain ⟨G, d1, d2, r, sb, r1, r2, e, k⟩ := id h
  unfold powD at e
  split at e
  · cases r1; cases r2
    split at e
    · rename_i q
      cases e
      exact op_pow pins s σ H _ _ v u Q I rx ry ⟨_, _, rfl, rfl, ⟨q.1, by omega, q.2.2⟩, same_end sb (.int _) k⟩
    · cases e
  · cases e
theorem o_neg {own : D → R Rv} (ho : UnR X (unaryOp .USub) (rDu X.K A own)) : UnR X (unaryOp .USub) (rDu X.K A (negD own)) := by
  intro pins s σ H x v Q I rx h
  obtain ⟨G, d1, r, sb, r1, e, k⟩ := id h
  unfold negD at e
  split at e
  · cases r1; cases e
    exact un_neg pins s σ H _ v Q I rx ⟨_, rfl, same_end sb (.int _) k⟩
  · exact ho pins s σ H x v Q I rx ⟨G, d1, r, sb, r1, e, k⟩
theorem o_no1 {f : Value → Sem Value} : UnR X f (rDu X.K A no1) := by
  intro pins s σ H x v Q I rx h
  obtain ⟨G, d1, r, sb, r1, e, k⟩ := h
  cases e
/-! order -/
theorem ltN_eq : ∀ a b : List Nat, ltN a b = decide (a < b)
  | [], [] => by simp [ltN]
  | [], b :: bs => by simp [ltN]
  | a :: as, [] => by simp [ltN]
  | a :: as, b :: bs => by
    unfold ltN
    rw [ltN_eq as bs, Bool.eq_iff_iff]
    simp [List.cons_lt_cons_iff]
theorem o_cmp {op : CmpOp} {f : D → D → R Rv} {gi : Int → Int → Bool} {gs : List Nat → List Nat → Bool} (hf : ∀ x y r, f x y = .ok r → (∃ i j, x = .int i ∧ y = .int j ∧ r = (.bl (gi i j), false)) ∨ ∃ a b, x = .str a ∧ y = .str b ∧ r = (.bl (gs a b), false))
    (hi : OpR X (compareOp op) (rI0 fun i j => .bl (gi i j))) (hs : OpR X (compareOp op) (fun x y H Q => ∃ i j, x = .str i ∧ y = .str j ∧ Q (.bl (gs i.cps.toList j.cps.toList)) H)) : OpR X (compareOp op) (rD X.K A f) := by
  intro pins s σ H x y v u Q I rx ry h
  obtain ⟨G, d1, d2, r, sb, r1, r2, e, k⟩ := h
  rcases hf _ _ _ e with ⟨i, j, rfl, rfl, rfl⟩ | ⟨a, b, rfl, rfl, rfl⟩
  · cases r1; cases r2
    exact hi pins s σ H _ _ v u Q I rx ry ⟨_, _, rfl, rfl, same_end sb (.bl _) k⟩
  · cases r1; cases r2
    refine hs pins s σ H _ _ v u Q I rx ry ⟨_, _, rfl, rfl, ?_⟩
    rw [S_toList, S_toList]
    exact same_end sb (.bl _) k
theorem o_lt : OpR X (compareOp .Lt) (rD X.K A ltD) := o_cmp (gi := fun i j => decide (i < j)) (gs := ltN) (fun x y r e => by
    unfold ltD at e
    split at e
    · cases e; exact .inl ⟨_, _, rfl, rfl, rfl⟩
    · cases e; exact .inr ⟨_, _, rfl, rfl, rfl⟩
    · cases e) op_lt (by
    intro pins s σ H x y v u Q I rx ry ⟨i, j, e1, e2, q⟩
    exact SL.op_ltS pins s σ H x y v u Q I rx ry ⟨i, j, e1, e2, by rw [← ltN_eq]; exact q⟩)
theorem o_gt : OpR X (compareOp .Gt) (rD X.K A gtD) := o_cmp (gi := fun i j => decide (j < i)) (gs := fun a b => ltN b a) (fun x y r e => by
    unfold gtD at e
    split at e
    · cases e; exact .inl ⟨_, _, rfl, rfl, rfl⟩
    · cases e; exact .inr ⟨_, _, rfl, rfl, rfl⟩
    · cases e) op_gt (by
    intro pins s σ H x y v u Q I rx ry ⟨i, j, e1, e2, q⟩
    exact SL.op_gtS pins s σ H x y v u Q I rx ry ⟨i, j, e1, e2, by rw [← ltN_eq]; exact q⟩)
theorem o_ge : OpR X (compareOp .GtE) (rD X.K A geD) := o_cmp (gi := fun i j => decide (j ≤ i)) (gs := fun a b => !ltN a b) (fun x y r e => by
    unfold geD at e
    split at e
    · cases e; exact .inl ⟨_, _, rfl, rfl, rfl⟩
    · cases e; exact .inr ⟨_, _, rfl, rfl, rfl⟩
    · cases e) op_ge (by
    intro pins s σ H x y v u Q I rx ry ⟨i, j, e1, e2, q⟩
    exact SL.op_geS pins s σ H x y v u Q I rx ry ⟨i, j, e1, e2, by rw [← ltN_eq]; exact q⟩)
/-! equality -/
mutual
def toP : D → PyData
  | .non => .none
  | .bl b => .bool b
  | .int i => .int i
  | .str l => .str (S l)
  | .tup xs => .tuple (toPs xs)
  | .kt xs => .tuple (toPs xs)
  | .lst xs => .list (toPs xs)
  | .fls xs => .list (toPs xs)
  | _ => .none
def toPs : List D → List PyData
  | [] => []
  | x :: xs => toP x :: toPs xs
end
theorem sok_eq (l : List Nat) : PySem.PyData.strOk (S l) = sok l := by
  unfold PySem.PyData.strOk sok S
  simp
mutual
theorem dok_p : ∀ (n : Nat) (d : D), dok n d = true → (toP d).canLay0 = true ∧ (toP d).depth ≤ n
  | n, .non, _ => ⟨rfl, Nat.zero_le _⟩
  | n, .bl _, _ => ⟨rfl, Nat.zero_le _⟩
  | n, .int _, _ => ⟨rfl, Nat.zero_le _⟩
  | n, .str l, h => ⟨by show PySem.PyData.strOk (S l) = true; rw [sok_eq]; cases n <;> exact h, Nat.zero_le _⟩
  | 0, .tup _, h => by cases h
  | 0, .kt _, h => by cases h
  | 0, .lst _, h => by cases h
  | 0, .fls _, h => by cases h
  | n + 1, .tup xs, h => by
    have := doks_p n xs h
    exact ⟨this.1, Nat.succ_le_succ this.2⟩
  | n + 1, .kt xs, h => by
    have := doks_p n xs h
    exact ⟨this.1, Nat.succ_le_succ this.2⟩
  | n + 1, .lst xs, h => by
    have := doks_p n xs h
    exact ⟨this.1, Nat.succ_le_succ this.2⟩
  | n + 1, .fls xs, h => by
    have := doks_p n xs h
    exact ⟨this.1, Nat.succ_le_succ this.2⟩
  | n, .dic _, h => by cases n <;> cases h
  | n, .dct _, h => by cases n <;> cases h
  | n, .ins _ _, h => by cases n <;> cases h
  | n, .ty _, h => by cases n <;> cases h
  | n, .cls _, h => by cases n <;> cases h
theorem doks_p : ∀ (n : Nat) (ds : List D), doks n ds = true → PyData.canLayAll0 (toPs ds) = true ∧ PyData.depthAll (toPs ds) ≤ n
  | n, [], _ => ⟨rfl, Nat.zero_le _⟩
  | n, x :: xs, h => by
    unfold doks at h
    rw [Bool.and_eq_true] at h
    have h1 := dok_p n x h.1
    have h2 := doks_p n xs h.2
    refine ⟨?_, Nat.max_le.mpr ⟨h1.2, h2.2⟩⟩
    show (PyData.canLay0 (toP x) && PyData.canLayAll0 (toPs xs)) = true
    rw [h1.1, h2.1]; rfl
end
theorem dok_shaped {n : Nat} {d : D} (hn : n ≤ 64) (h : dok n d = true) : SeqAt.shaped (toP d) = true := by
  have := dok_p n d h
  unfold SeqAt.shaped
  rw [this.1, decide_eq_true (Nat.le_trans this.2 hn)]; rfl
section
variable {K : PySem.W.Frag} {G H : Hp}
mutual
theorem rep_dp (sb : Sub G H) : ∀ (n : Nat) (d : D) (v : V), dok n d = true → Rep K A G v d → Dp K H v (toP d)
  | n, .non, _, _, r => by cases r; exact .non
  | n, .bl b, _, _, r => by cases r; exact .bl b
  | n, .int i, _, _, r => by cases r; exact .int i
  | n, .str l, _, _, r => by cases r; exact .str _
  | 0, .tup _, _, h, _ => by cases h
  | 0, .kt _, _, h, _ => by cases h
  | 0, .lst _, _, h, _ => by cases h
  | 0, .fls _, _, h, _ => by cases h
  | n + 1, .tup xs, _, h, r => by obtain ⟨p, vs, rfl, h1, q⟩ := r.sqT sb; exact .tup h1 (reps_dp sb n xs _ h q)
  | n + 1, .kt xs, _, h, r => by obtain ⟨p, vs, rfl, h1, q⟩ := r.sqK sb; exact .tup (SqT.of h1) (reps_dp sb n xs _ h q)
  | n + 1, .lst xs, _, h, r => by cases r with | lst h1 q => exact .lst (SqL.of (sb.lst h1)) (reps_dp sb n xs _ h q)
  | n + 1, .fls xs, _, h, r => by cases r with | fls h1 q => exact .lst (sb.sqL h1) (reps_dp sb n xs _ h q)
  | n, .dic _, _, h, _ => by cases n <;> cases h
  | n, .dct _, _, h, _ => by cases n <;> cases h
  | n, .ins _ _, _, h, _ => by cases n <;> cases h
  | n, .ty _, _, h, _ => by cases n <;> cases h
  | n, .cls _, _, h, _ => by cases n <;> cases h
theorem reps_dp (sb : Sub G H) : ∀ (n : Nat) (ds : List D) (vs : List V), doks n ds = true → Reps K A G vs ds → DpAll K H vs (toPs ds)
  | n, [], _, _, r => by cases r; exact .nil
  | n, x :: xs, _, h, r => by
    unfold doks at h
    rw [Bool.and_eq_true] at h
    cases r with
    | cons a b => exact .cons (rep_dp sb n x _ h.1 a) (reps_dp sb n xs _ h.2 b)
end
end
theorem S_beq (a b : List Nat) : (S a == S b) = (a == b) := by
  rw [Bool.eq_iff_iff, beq_iff_eq, beq_iff_eq]
  exact ⟨S_inj, fun h => by rw [h]⟩
mutual
theorem eqv_p : ∀ (n m : Nat) (x y : D), dok n x = true → dok m y = true → PyData.eqv (toP x) (toP y) = eqv x y
  | n, m, .non, y, _, h => by cases m <;> cases y <;> first | rfl | cases h
  | n, m, .bl _, y, _, h => by cases m <;> cases y <;> first | rfl | cases h
  | n, m, .int _, y, _, h => by cases m <;> cases y <;> first | rfl | cases h
  | n, m, .str a, y, _, h => by
    cases y with
    | str b => show (S a == S b) = (a == b); exact S_beq a b
    | _ => cases m <;> first | rfl | cases h
  | 0, m, .tup _, _, h, _ => by cases h
  | 0, m, .kt _, _, h, _ => by cases h
  | 0, m, .lst _, _, h, _ => by cases h
  | 0, m, .fls _, _, h, _ => by cases h
  | n + 1, m, .tup a, y, h0, h => by
    cases y with
    | tup b => cases m with
      | zero => cases h
      | succ m => exact eqvs_p n m a b h0 h
    | kt b => cases m with
      | zero => cases h
      | succ m => exact eqvs_p n m a b h0 h
    | _ => cases m <;> first | rfl | cases h
  | n + 1, m, .kt a, y, h0, h => by
    cases y with
    | tup b => cases m with
      | zero => cases h
      | succ m => exact eqvs_p n m a b h0 h
    | kt b => cases m with
      | zero => cases h
      | succ m => exact eqvs_p n m a b h0 h
    | _ => cases m <;> first | rfl | cases h
  | n + 1, m, .lst a, y, h0, h => by
    cases y with
    | lst b => cases m with
      | zero => cases h
      | succ m => exact eqvs_p n m a b h0 h
    | fls b => cases m with
      | zero => cases h
      | succ m => exact eqvs_p n m a b h0 h
    | _ => cases m <;> first | rfl | cases h
  | n + 1, m, .fls a, y, h0, h => by
    cases y with
    | lst b => cases m with
      | zero => cases h
      | succ m => exact eqvs_p n m a b h0 h
    | fls b => cases m with
      | zero => cases h
      | succ m => exact eqvs_p n m a b h0 h
    | _ => cases m <;> first | rfl | cases h
  | n, _, .dic _, _, h, _ => by cases n <;> cases h
  | n, _, .dct _, _, h, _ => by cases n <;> cases h
  | n, _, .ins _ _, _, h, _ => by cases n <;> cases h
  | n, _, .ty _, _, h, _ => by cases n <;> cases h
  | n, _, .cls _, _, h, _ => by cases n <;> cases h
theorem eqvs_p : ∀ (n m : Nat) (xs ys : List D), doks n xs = true → doks m ys = true → PyData.eqvAll (toPs xs) (toPs ys) = eqvs xs ys
  | n, m, [], [], _, _ => rfl
  | n, m, [], y :: ys, _, _ => rfl
  | n, m, x :: xs, [], _, _ => rfl
  | n, m, x :: xs, y :: ys, h, h' => by
    unfold doks at h h'
    rw [Bool.and_eq_true] at h h'
    show (PyData.eqv (toP x) (toP y) && PyData.eqvAll (toPs xs) (toPs ys)) = (eqv x y && eqvs xs ys)
    rw [eqv_p n m x y h.1 h'.1, eqvs_p n m xs ys h.2 h'.2]
end
section
variable {own : D → D → R Rv}
theorem o_eqG (hu : X.A.units + 64 < cLine) (ho : OpR X (compareOp .Eq) (rD X.K A own)) : OpR X (compareOp .Eq) (rD X.K A (eqG own)) := by
  intro pins s σ H x y v u Q I rx ry h
  obtain ⟨G, d1, d2, r, sb, r1, r2, e, k⟩ := id h
  unfold eqG at e
  split at e
  · rename_i q
    rw [Bool.and_eq_true] at q
    cases e
    refine op_eqD hu pins s σ H x y v u Q I rx ry ⟨_, _, rep_dp sb _ d1 x q.1 r1, rep_dp sb _ d2 y q.2 r2, dok_shaped (by decide) q.1, dok_shaped (by decide) q.2, ?_⟩
    rw [eqv_p _ _ _ _ q.1 q.2]
    exact same_end sb (.bl _) k
  · exact ho pins s σ H x y v u Q I rx ry ⟨G, d1, d2, r, sb, r1, r2, e, k⟩
theorem o_eq (hu : X.A.units + 64 < cLine) (ho : OpR X (compareOp .Eq) (rD X.K A own)) : OpR X (compareOp .Eq) (rD X.K A (eqD own)) := by
  intro pins s σ H x y v u Q I rx ry h
  obtain ⟨G, d1, d2, r, sb, r1, r2, e, k⟩ := id h
  unfold eqD at e
  split at e
  · cases r1; cases r2; cases e
    exact op_eq pins s σ H _ _ v u Q I rx ry (SL.go_eqI (same_end sb (.bl _) k))
  · rename_i a b
    cases r1; cases r2; cases e
    refine op_eq pins s σ H _ _ v u Q I rx ry (SL.go_eqS ?_)
    have z : decide (S a = S b) = decide (a = b) := by
      by_cases h : a = b
      · rw [h]; simp
      · rw [decide_eq_false h, decide_eq_false fun z => h (S_inj z)]
    rw [z]
    exact same_end sb (.bl _) k
  · cases r1; cases r2; cases e
    exact op_eq pins s σ H _ _ v u Q I rx ry (SL.go_eqB (same_end sb (.bl _) k))
  · exact o_eqG hu ho pins s σ H x y v u Q I rx ry ⟨G, d1, d2, r, sb, r1, r2, e, k⟩
/-- own !=, by what == says -/
def neOf (own : D → D → R Rv) : D → D → R Rv := fun x y => do
  let r ← own x y
  let b ← isB r.1
  bl_ (!b)
theorem o_neG (hu : X.A.units + 64 < cLine) (ho : OpR X (compareOp .NotEq) (rD X.K A (neOf own))) : OpR X (compareOp .NotEq) (rD X.K A (neG own)) := by
  intro pins s σ H x y v u Q I rx ry h
  obtain ⟨G, d1, d2, r, sb, r1, r2, e, k⟩ := id h
  unfold neG at e
  split at e
  · rename_i q
    rw [Bool.and_eq_true] at q
    cases e
    refine op_neD hu pins s σ H x y v u Q I rx ry ⟨_, _, rep_dp sb _ d1 x q.1 r1, rep_dp sb _ d2 y q.2 r2, dok_shaped (by decide) q.1, dok_shaped (by decide) q.2, ?_⟩
    rw [eqv_p _ _ _ _ q.1 q.2]
    exact same_end sb (.bl _) k
  · exact ho pins s σ H x y v u Q I rx ry ⟨G, d1, d2, r, sb, r1, r2, e, k⟩
theorem o_ne (hu : X.A.units + 64 < cLine) (ho : OpR X (compareOp .NotEq) (rD X.K A (neOf own))) : OpR X (compareOp .NotEq) (rD X.K A (neD own)) := by
  intro pins s σ H x y v u Q I rx ry h
  obtain ⟨G, d1, d2, r, sb, r1, r2, e, k⟩ := id h
  unfold neD at e
  split at e
  · cases r1; cases r2; cases e
    exact op_ne pins s σ H _ _ v u Q I rx ry (SL.go_neI (same_end sb (.bl _) k))
  · rename_i a b
    cases r1; cases r2; cases e
    refine op_ne pins s σ H _ _ v u Q I rx ry (SL.go_neS ?_)
    have z : decide (S a = S b) = decide (a = b) := by
      by_cases h : a = b
      · rw [h]; simp
      · rw [decide_eq_false h, decide_eq_false fun z => h (S_inj z)]
    rw [z]
    exact same_end sb (.bl _) k
  · cases r1; cases r2; cases e
    exact op_ne pins s σ H _ _ v u Q I rx ry (SL.go_neB (same_end sb (.bl _) k))
  · exact o_neG hu ho pins s σ H x y v u Q I rx ry ⟨G, d1, d2, r, sb, r1, r2, e, k⟩
end
theorem o_noNe : OpR X (compareOp .NotEq) (rD X.K A (neOf no2)) := by
  intro pins s σ H x y v u Q I rx ry h
  obtain ⟨G, d1, d2, r, sb, r1, r2, e, k⟩ := h
  cases e
theorem o_isN : OpR X (compareOp .Is) (rD X.K A isN) := by
  intro pins s σ H x y v u Q I rx ry h
  obtain ⟨G, d1, d2, r, sb, r1, r2, e, k⟩ := h
  unfold isN at e
  split at e
  · cases e
  · cases r1; cases r2; cases e
    exact op_isN pins s σ H _ _ v u Q I rx ry ⟨rfl, same_end sb (.bl _) k⟩
  · rename_i na n
    cases r2; cases e
    refine op_isN pins s σ H _ _ v u Q I rx ry ⟨rfl, ?_⟩
    rw [decide_eq_false (fun z => by subst z; cases r1 <;> first | exact n rfl | exact na rfl)]
    exact same_end sb (.bl _) k
  · cases e
end DY

set_option Elab.async false
set_option linter.all false
set_option maxRecDepth 100000
set_option maxHeartbeats 4000000
namespace DY
open PySem L2 PySem.Spec PyProof.Rows
variable [Tb]
section
variable {K : PySem.W.Frag} {A : CT} {G G' H H' : Hp} {Q : VK}
/-! dicts -/
theorem RepK.val {kvs : List (Key × V)} {ds : List (Ky × D)} (h : RepK K A G kvs ds) (k : Ky) : (∃ d v, dget ds k = some d ∧ valV kvs (kK k) = some v ∧ Rep K A G v d) ∨ (dget ds k = none ∧ valV kvs (kK k) = none) := by
  induction ds generalizing kvs with
  | nil => cases h; exact .inr ⟨rfl, rfl⟩
  | cons p ds ih =>
    cases h with
    | @cons q v d vs _ a b =>
      by_cases e : q = k
      · subst e
        exact .inl ⟨d, v, by unfold dget; simp, valV_pos (p := (kK q, v)) rfl, a⟩
      · have e' : ¬ kK q = kK k := fun z => e (kK_inj z)
        rcases ih b with ⟨d', v', h1, h2, h3⟩ | ⟨h1, h2⟩
        · exact .inl ⟨d', v', by unfold dget at *; simpa [e] using h1, by rw [valV_neg (p := (kK q, v)) e']; exact h2, h3⟩
        · exact .inr ⟨by unfold dget at *; simpa [e] using h1, by rw [valV_neg (p := (kK q, v)) e']; exact h2⟩
theorem map_kK_inj {a b : List Ky} (h : a.map kK = b.map kK) : a = b := List.map_inj_right (fun _ _ z => kK_inj z) |>.mp h
theorem RepT.val {kvs : List (List Key × V)} {ds : List (List Ky × D)} (h : RepT K A G kvs ds) (k : List Ky) : (∃ d v, dget ds k = some d ∧ valV kvs (k.map kK) = some v ∧ Rep K A G v d) ∨ (dget ds k = none ∧ valV kvs (k.map kK) = none) := by
  induction ds generalizing kvs with
  | nil => cases h; exact .inr ⟨rfl, rfl⟩
  | cons p ds ih =>
    cases h with
    | @cons q v d vs _ a b =>
      by_cases e : q = k
      · subst e
        exact .inl ⟨d, v, by unfold dget; simp, valV_pos (p := (q.map kK, v)) rfl, a⟩
      · have e' : ¬ q.map kK = k.map kK := fun z => e (map_kK_inj z)
        rcases ih b with ⟨d', v', h1, h2, h3⟩ | ⟨h1, h2⟩
        · exact .inl ⟨d', v', by unfold dget at *; simpa [e] using h1, by rw [valV_neg (p := (q.map kK, v)) e']; exact h2, h3⟩
        · exact .inr ⟨by unfold dget at *; simpa [e] using h1, by rw [valV_neg (p := (q.map kK, v)) e']; exact h2⟩
theorem RepK.len {kvs : List (Key × V)} {ds : List (Ky × D)} (h : RepK K A G kvs ds) : kvs.length = ds.length := by
  induction ds generalizing kvs with
  | nil => cases h; rfl
  | cons p ds ih => cases h with | cons a b => rw [List.length_cons, List.length_cons, ih b]
theorem RepT.len {kvs : List (List Key × V)} {ds : List (List Ky × D)} (h : RepT K A G kvs ds) : kvs.length = ds.length := by
  induction ds generalizing kvs with
  | nil => cases h; rfl
  | cons p ds ih => cases h with | cons a b => rw [List.length_cons, List.length_cons, ih b]
theorem RepK.any {kvs : List (Key × V)} {ds : List (Ky × D)} (h : RepK K A G kvs ds) (k : Ky) : (kvs.any fun kv => decide (kv.1 = kK k)) = (ds.any fun kv => decide (kv.1 = k)) := by
  induction ds generalizing kvs with
  | nil => cases h; rfl
  | cons p ds ih =>
    cases h with
    | @cons q v d vs _ a b =>
      rw [List.any_cons, List.any_cons, ih b]
      congr 1
      by_cases e : q = k
      · subst e; simp
      · rw [decide_eq_false e, decide_eq_false fun z => e (kK_inj z)]
theorem RepK.repl {kvs : List (Key × V)} {ds : List (Ky × D)} (h : RepK K A G kvs ds) (k : Ky) {v : V} {d : D} (r : Rep K A G v d) : RepK K A G (kvs.map fun kv => if kv.1 = kK k then (kv.1, v) else kv) (ds.map fun kv => if kv.1 = k then (kv.1, d) else kv) := by
  induction ds generalizing kvs with
  | nil => cases h; exact .nil
  | cons p ds ih =>
    cases h with
    | @cons q v' d' vs _ a b =>
      rw [List.map_cons, List.map_cons]
      by_cases e : q = k
      · rw [if_pos (congrArg kK e), if_pos e]; exact .cons r (ih b)
      · rw [if_neg fun z => e (kK_inj z), if_neg e]; exact .cons a (ih b)
theorem RepK.append {kvs ks : List (Key × V)} {ds es : List (Ky × D)} (h : RepK K A G kvs ds) (h' : RepK K A G ks es) : RepK K A G (kvs ++ ks) (ds ++ es) := by
  induction ds generalizing kvs with
  | nil => cases h; exact h'
  | cons p ds ih => cases h with | cons a b => exact .cons a (ih b)
theorem RepK.put {kvs : List (Key × V)} {ds : List (Ky × D)} (h : RepK K A G kvs ds) (k : Ky) {v : V} {d : D} (r : Rep K A G v d) : RepK K A G (putK kvs (kK k) v) (dput ds k d) := by
  unfold putK dput
  rw [h.any]
  split
  · exact h.repl k r
  · exact h.append (.cons r .nil)
theorem RepT.any {kvs : List (List Key × V)} {ds : List (List Ky × D)} (h : RepT K A G kvs ds) (k : List Ky) : (kvs.any fun kv => decide (kv.1 = k.map kK)) = (ds.any fun kv => decide (kv.1 = k)) := by
  induction ds generalizing kvs with
  | nil => cases h; rfl
  | cons p ds ih =>
    cases h with
    | @cons q v d vs _ a b =>
      rw [List.any_cons, List.any_cons, ih b]
      congr 1
      by_cases e : q = k
      · subst e; simp
      · rw [decide_eq_false e, decide_eq_false fun z => e (map_kK_inj z)]
theorem RepT.repl {kvs : List (List Key × V)} {ds : List (List Ky × D)} (h : RepT K A G kvs ds) (k : List Ky) {v : V} {d : D} (r : Rep K A G v d) : RepT K A G (kvs.map fun kv => if kv.1 = k.map kK then (kv.1, v) else kv) (ds.map fun kv => if kv.1 = k then (kv.1, d) else kv) := by
  induction ds generalizing kvs with
  | nil => cases h; exact .nil
  | cons p ds ih =>
    cases h with
    | @cons q v' d' vs _ a b =>
      rw [List.map_cons, List.map_cons]
      by_cases e : q = k
      · rw [if_pos (congrArg (List.map kK) e), if_pos e]; exact .cons r (ih b)
      · rw [if_neg fun z => e (map_kK_inj z), if_neg e]; exact .cons a (ih b)
theorem RepT.append {kvs ks : List (List Key × V)} {ds es : List (List Ky × D)} (h : RepT K A G kvs ds) (h' : RepT K A G ks es) : RepT K A G (kvs ++ ks) (ds ++ es) := by
  induction ds generalizing kvs with
  | nil => cases h; exact h'
  | cons p ds ih => cases h with | cons a b => exact .cons a (ih b)
theorem RepT.put {kvs : List (List Key × V)} {ds : List (List Ky × D)} (h : RepT K A G kvs ds) (k : List Ky) {v : V} {d : D} (r : Rep K A G v d) : RepT K A G (putK kvs (k.map kK) v) (dput ds k d) := by
  unfold putK dput
  rw [h.any]
  split
  · exact h.repl k r
  · exact h.append (.cons r .nil)
theorem keyOf_rep {v : V} {d : D} {k : Ky} (r : Rep K A G v d) (e : keyOf d = .ok k) : v = kV (kK k) ∧ d = kyD k := by
  unfold keyOf at e
  split at e
  · cases r; cases e; exact ⟨rfl, rfl⟩
  · cases r; cases e; exact ⟨rfl, rfl⟩
  · cases e
theorem keysOf_rep {ds : List D} {ks : List Ky} {vs : List V} (r : Reps K A G vs ds) (e : keysOf ds = .ok ks) : vs = (ks.map kK).map kV ∧ ds ≠ [] := by
  induction ds generalizing vs ks with
  | nil => cases e
  | cons d ds ih =>
    cases r with
    | cons a b =>
      refine ⟨?_, fun z => nomatch z⟩
      cases ds with
      | nil =>
        cases b
        obtain ⟨k, e1, e⟩ := bind_ok e
        cases e
        rw [(keyOf_rep a e1).1]; rfl
      | cons d' ds =>
        obtain ⟨k, e1, e⟩ := bind_ok e
        obtain ⟨ks', e2, e⟩ := bind_ok e
        cases e
        rw [List.map_cons, List.map_cons, ← (ih b e2).1, (keyOf_rep a e1).1]
theorem key_tup {v : V} {ds : List D} {ks : List Ky} (r : Rep K A G v (.kt ds)) (e : keysOf ds = .ok ks) (s : Sub G H) : ∃ b, v = .ref b ∧ H b = some (.tup ((ks.map kK).map kV)) := by
  obtain ⟨p, vs, rfl, h, q⟩ := r.sqK s
  rw [(keysOf_rep q e).1] at h
  exact ⟨p, rfl, h⟩
/-! a value, or an own object that is looked at -/
def RepB (K : PySem.W.Frag) (A : CT) (G H : Hp) (x : V) (d : D) : Prop := Rep K A G x d ∨ ∃ p, x = .ref p ∧ G p = none ∧ Has K A G H p d
theorem RepB.lst {x : V} {ds : List D} (s : Sub G H) (h : RepB K A G H x (.lst ds)) : ∃ p vs, x = .ref p ∧ H p = some (.lst vs) ∧ Reps K A G vs ds := by
  rcases h with h | ⟨p, e, _, vs, h1, h2⟩
  · cases h with | lst h1 h2 => exact ⟨_, _, rfl, s.lst h1, h2⟩
  · exact ⟨p, vs, e, h1, h2⟩
theorem RepB.dic {x : V} {ds : List (Ky × D)} (s : Sub G H) (h : RepB K A G H x (.dic ds)) : ∃ p kvs, x = .ref p ∧ Rd H p (.dK kvs) ∧ RepK K A G kvs ds := by
  rcases h with h | ⟨p, e, _, vs, h1, h2⟩
  · cases h with | dic h1 h2 => exact ⟨_, _, rfl, s.dK h1, h2⟩
  · exact ⟨p, vs, e, .inl h1, h2⟩
theorem RepB.dct {x : V} {ds : List (List Ky × D)} (s : Sub G H) (h : RepB K A G H x (.dct ds)) : ∃ p kvs, x = .ref p ∧ Rd H p (.dT kvs) ∧ RepT K A G kvs ds := by
  rcases h with h | ⟨p, e, _, vs, h1, h2⟩
  · cases h with | dct h1 h2 => exact ⟨_, _, rfl, s.dT h1, h2⟩
  · exact ⟨p, vs, e, .inl h1, h2⟩
theorem RepB.tup {x : V} {ds : List D} (s : Sub G H) (h : RepB K A G H x (.tup ds)) : ∃ p vs, x = .ref p ∧ SqT K H p vs ∧ Reps K A G vs ds := by
  rcases h with h | ⟨p, e, _, h⟩
  · exact h.sqT s
  · exact h.elim
theorem RepB.fls {x : V} {ds : List D} (s : Sub G H) (h : RepB K A G H x (.fls ds)) : ∃ p vs, x = .ref p ∧ SqL K H p vs ∧ Reps K A G vs ds := by
  rcases h with h | ⟨p, e, _, h⟩
  · cases h with | fls h1 h2 => exact ⟨_, _, rfl, s.sqL h1, h2⟩
  · exact h.elim
theorem RepB.str {x : V} {l : List Nat} (h : RepB K A G H x (.str l)) : x = .str (S l) := by
  rcases h with h | ⟨p, e, _, h⟩
  · cases h; rfl
  · exact h.elim
variable (K A) in
def rDb (f : D → D → R Rv) : R2 := fun x y H Q => ∃ G d1 d2 d, Sub G H ∧ RepB K A G H x d1 ∧ Rep K A G y d2 ∧ f d1 d2 = .ok (d, false) ∧ ∀ v, Rep K A G v d → Q v H
variable (K A) in
def rDc (f : D → D → R Rv) : R2 := fun x y H Q => ∃ G d1 d2 d, Sub G H ∧ Rep K A G x d1 ∧ RepB K A G H y d2 ∧ f d1 d2 = .ok (d, false) ∧ ∀ v, Rep K A G v d → Q v H
variable (K A) in
def rDb1 (f : D → R Rv) : List V → Hp → VK → Prop := fun xs H Q => ∃ G x d1 d, xs = [x] ∧ Sub G H ∧ RepB K A G H x d1 ∧ f d1 = .ok (d, false) ∧ ∀ v, Rep K A G v d → Q v H
theorem rD_c {f : D → D → R Rv} {x y : V} (nf : ∀ x y r, f x y = .ok r → r.2 = false) (h : rD K A f x y H Q) : rDc K A f x y H Q := by
  obtain ⟨G, d1, d2, ⟨d, b⟩, sb, r1, r2, e, k⟩ := h
  obtain rfl : b = false := nf _ _ _ e
  exact ⟨G, d1, d2, d, sb, r1, .inl r2, e, fun v r => k v G H (Nx0.refl sb) (RepR.of r)⟩
theorem opt_ok {o : Option D} {d : D} {b : Bool} (h : opt o = .ok (d, b)) : o = some d ∧ b = false := by
  unfold opt at h
  split at h
  · cases h; exact ⟨rfl, rfl⟩
  · cases h
theorem nf_ix (x y : D) (r : Rv) (e : ixD x y = .ok r) : r.2 = false := by
  obtain ⟨d, b⟩ := r
  unfold ixD at e
  split at e
  · exact (opt_ok e).2
  · exact (opt_ok e).2
  · exact (opt_ok e).2
  · split at e
    · exact (opt_ok e).2
    · cases e
  · exact (opt_ok e).2
  · exact (opt_ok e).2
  · obtain ⟨_, _, e⟩ := bind_ok e; exact (opt_ok e).2
  · cases e
theorem nf_in (x y : D) (r : Rv) (e : inD x y = .ok r) : r.2 = false := by
  obtain ⟨_, _, e⟩ := bind_ok e
  cases e; rfl
theorem nf_nin (x y : D) (r : Rv) (e : ninD x y = .ok r) : r.2 = false := by
  obtain ⟨_, _, e⟩ := bind_ok e
  cases e; rfl
theorem atI_rep {vs : List V} {ds : List D} {i : Int} {d : D} (r : Reps K A G vs ds) (e : DY.atI ds i = some d) : ∃ v, L2.atI vs i = some v ∧ Rep K A G v d := by
  unfold DY.atI at e
  unfold L2.atI
  rw [r.len]
  obtain ⟨j, h1, h2⟩ := Option.bind_eq_some_iff.mp e
  obtain ⟨v, h3, h4⟩ := r.get' h2
  exact ⟨v, Option.bind_eq_some_iff.mpr ⟨j, h1, h3⟩, h4⟩
end
variable {X : Cx} {A : CT}
/-- d[y] by values -/
theorem ix_dict (hu : X.A.units + 1 < cLine) : IxR X (fun x y H Q => ∃ a v, x = .ref a ∧ DGet H a y (some v) ∧ Q v H) := by
  intro value slice pins s σ H x y v u Q I rx ry h hs
  obtain ⟨a, w, rfl, g, q⟩ := h
  obtain rfl : v = Value.ref a := rx
  have hT := dict_typeIs I g
  unfold subscriptTail
  refine wpAny_bind ?_
  rw [getitemInPython_of_ne hT.not_modules]
  refine wpAny_bind (wpAny_specialOf hT PySem.F.slot_dict_getitem.lookup ?_)
  have fin : wpAny (model X.prog X.w) X.A (subscripted slice false (.ref a) u) (fun r s₃ => wpAny (model X.prog X.w) X.A (letTemporaryGo value (.ref a) r >>= fun _ => pure r) (EP X pins σ Q) X.xe s₃) X.xe s := by
    rw [hs]
    exact wpAny_operating (d_getItem hu I g ry fun w' s3 I3 rw' => wpAny_bind (wpAny_letTemporaryGo (wpAny_pure ⟨w, H, I3, rw', q⟩)))
  first
    | exact wpAny_pure (wpAny_bind fin)
    | exact wpAny_bind (wpAny_pure (wpAny_bind fin))
    | exact wpAny_bind fin
theorem DGet.kr {H : Hp} {a : Addr} {kvs : List (Key × V)} {k : Key} (e : Rd H a (.dK kvs)) : DGet H a (kV k) (valV kvs k) := .inl ⟨kvs, k, e, rfl, rfl⟩
theorem DGet.tr {H : Hp} {a b : Addr} {kvs : List (List Key × V)} {k : List Key} (e : Rd H a (.dT kvs)) (eb : H b = some (.tup (k.map kV))) : DGet H a (.ref b) (valV kvs k) := .inr ⟨kvs, k, b, e, rfl, eb, rfl⟩
theorem o_ixb (hu : X.A.units + 1 < cLine) : IxR X (rDb X.K A ixD) := by
  intro value slice pins s σ H x y v u Q I rx ry h hs
  obtain ⟨G, d1, d2, d, sb, r1, r2, e, k⟩ := h
  unfold ixD at e
  split at e
  · cases r2
    obtain ⟨p, vs, rfl, h1, q1⟩ := r1.lst sb
    obtain ⟨w, h2, h3⟩ := atI_rep q1 (opt_ok e).1
    exact ix_list value slice pins s σ H _ _ v u Q I rx ry ⟨p, vs, _, w, rfl, rfl, SqL.of h1, h2, k _ h3⟩ hs
  · cases r2
    obtain ⟨p, vs, rfl, h1, q1⟩ := r1.fls sb
    obtain ⟨w, h2, h3⟩ := atI_rep q1 (opt_ok e).1
    exact ix_list value slice pins s σ H _ _ v u Q I rx ry ⟨p, vs, _, w, rfl, rfl, h1, h2, k _ h3⟩ hs
  · cases r2
    obtain ⟨p, vs, rfl, h1, q1⟩ := r1.tup sb
    obtain ⟨w, h2, h3⟩ := atI_rep q1 (opt_ok e).1
    exact ix_tup value slice pins s σ H _ _ v u Q I rx ry ⟨p, vs, _, w, rfl, rfl, h1, h2, k _ h3⟩ hs
  · cases r2
    obtain rfl := r1.str
    split at e
    · rename_i q
      obtain ⟨c, h1, h2⟩ := Option.map_eq_some_iff.mp (opt_ok e).1
      subst h2
      exact ix_str value slice pins s σ H _ _ v u Q I rx ry ⟨_, _, c, rfl, rfl, by rw [S_len]; exact szK q, by rw [S_toList]; exact h1, k _ (.str [c])⟩ hs
    · cases e
  · cases r2
    rename_i kvs i
    obtain ⟨p, k', rfl, h1, q1⟩ := r1.dic sb
    rcases q1.val (.inl i) with ⟨d', w, h2, h3, h4⟩ | ⟨h2, h3⟩
    · rw [h2] at e
      obtain ⟨e, _⟩ := opt_ok e
      cases e
      exact ix_dict hu value slice pins s σ H _ _ v u Q I rx ry ⟨p, w, rfl, h3 ▸ DGet.kr (k := .inl i) h1, k _ h4⟩ hs
    · rw [h2] at e; cases e
  · cases r2
    rename_i kvs l
    obtain ⟨p, k', rfl, h1, q1⟩ := r1.dic sb
    rcases q1.val (.inr l) with ⟨d', w, h2, h3, h4⟩ | ⟨h2, h3⟩
    · rw [h2] at e
      obtain ⟨e, _⟩ := opt_ok e
      cases e
      exact ix_dict hu value slice pins s σ H _ _ v u Q I rx ry ⟨p, w, rfl, h3 ▸ DGet.kr (k := .inr (S l)) h1, k _ h4⟩ hs
    · rw [h2] at e; cases e
  · rename_i kvs ks
    obtain ⟨kk, e0, e⟩ := bind_ok e
    obtain ⟨p, k', rfl, h1, q1⟩ := r1.dct sb
    obtain ⟨b, rfl, hb⟩ := key_tup r2 e0 sb
    rcases q1.val kk with ⟨d', w, h2, h3, h4⟩ | ⟨h2, h3⟩
    · rw [h2] at e
      obtain ⟨e, _⟩ := opt_ok e
      cases e
      exact ix_dict hu value slice pins s σ H _ _ v u Q I rx ry ⟨p, w, rfl, h3 ▸ DGet.tr h1 hb, k _ h4⟩ hs
    · rw [h2] at e; cases e
  · cases e
/-! in -/
theorem flat_eq {K : PySem.W.Frag} {G : Hp} {v w : V} {d e : D} (r : Rep K A G v d) (r' : Rep K A G w e) (f : flat d = true) (f' : flat e = true) : eqV v w = eqv d e := by
  cases r <;> first | (cases f; done) | (cases r' <;> first | (cases f'; done) | rfl | exact S_beq _ _)
theorem flat_v {K : PySem.W.Frag} {G : Hp} {v : V} {d : D} (r : Rep K A G v d) (f : flat d = true) : flatV v = true := by
  cases r <;> first | (cases f; done) | rfl
theorem flat_all {K : PySem.W.Frag} {G : Hp} {vs : List V} {ds : List D} (r : Reps K A G vs ds) (f : ds.all flat = true) : vs.all flatV = true := by
  induction ds generalizing vs with
  | nil => cases r; rfl
  | cons d ds ih =>
    cases r with
    | cons a b =>
      rw [List.all_cons, Bool.and_eq_true] at f
      rw [List.all_cons, flat_v a f.1, ih b f.2]; rfl
theorem flat_any {K : PySem.W.Frag} {G : Hp} {vs : List V} {ds : List D} {w : V} {e : D} (r : Reps K A G vs ds) (f : ds.all flat = true) (r' : Rep K A G w e) (f' : flat e = true) : inV w vs = ds.any fun z => eqv z e := by
  unfold inV
  induction ds generalizing vs with
  | nil => cases r; rfl
  | cons d ds ih =>
    cases r with
    | cons a b =>
      rw [List.all_cons, Bool.and_eq_true] at f
      rw [List.any_cons, List.any_cons, ih b f.2, flat_eq a r' f.1 f']
theorem any_p {n m : Nat} {x : D} (hx : dok m x = true) : ∀ {ds : List D}, doks n ds = true → ((toPs ds).any fun z => PyData.eqv z (toP x)) = ds.any fun z => eqv z x
  | [], _ => rfl
  | d :: ds, h => by
    unfold doks at h
    rw [Bool.and_eq_true] at h
    show (PyData.eqv (toP d) (toP x) || (toPs ds).any fun z => PyData.eqv z (toP x)) = (eqv d x || ds.any fun z => eqv z x)
    rw [eqv_p n m d x h.1 hx, any_p hx h.2]
theorem doks_shaped {n : Nat} {ds : List D} (hn : n < 64) (h : doks n ds = true) : SeqAt.shaped (.list (toPs ds)) = true := dok_shaped (n := n + 1) (d := .lst ds) (by omega) h
/-- what the two rules share -/
theorem inB_use {op : CmpOp} {g : Bool → Bool} (hu : X.A.units + 65 < cLine)
    (h1 : OpR X (compareOp op) (fun x y H Q => ∃ (c : Nat) (z : Str), x = .str ⟨#[c]⟩ ∧ y = .str z ∧ Q (.bl (g (decide (c ∈ z.cps.toList)))) H))
    (h2 : OpR X (compareOp op) (fun y x H Q => ∃ a o, x = .ref a ∧ DGet H a y o ∧ Q (.bl (g o.isSome)) H))
    (h3 : OpR X (compareOp op) (fun x y H Q => ∃ p xs, y = .ref p ∧ (SqL X.K H p xs ∨ SqT X.K H p xs) ∧ flatV x = true ∧ xs.all flatV = true ∧ Q (.bl (g (inV x xs))) H))
    (h4 : OpR X (compareOp op) (fun x y H Q => ∃ d ds, Dp X.K H x d ∧ Dp X.K H y (.list ds) ∧ SeqAt.shaped d = true ∧ SeqAt.shaped (.list ds) = true ∧ Q (.bl (g (ds.any fun z => PyData.eqv z d))) H)) :
    OpR X (compareOp op) (rDc X.K A (fun x y => do let b ← inB x y; bl_ (g b))) := by
  intro pins s σ H x y v u Q I rx ry h
  obtain ⟨G, d1, d2, d, sb, r1, r2, e, k⟩ := h
  obtain ⟨b, e1, e'⟩ := bind_ok e
  cases e'
  clear e
  have e := e1
  clear e1
  unfold inB at e
  split at e
  · cases r1
    obtain rfl := r2.str
    cases e
    exact h1 pins s σ H _ _ v u Q I rx ry ⟨_, _, rfl, rfl, by rw [S_toList]; exact k _ (.bl _)⟩
  · cases r1
    rename_i i kvs
    obtain ⟨p, k', rfl, q0, q1⟩ := r2.dic sb
    cases e
    refine h2 pins s σ H _ _ v u Q I rx ry ⟨p, _, rfl, DGet.kr (k := .inl i) q0, ?_⟩
    rcases q1.val (.inl i) with ⟨d', w, h2, h3, h4⟩ | ⟨h2, h3⟩
    · rw [show valV k' (.inl i) = some w from h3]; rw [h2] at k; exact k _ (.bl _)
    · rw [show valV k' (.inl i) = none from h3]; rw [h2] at k; exact k _ (.bl _)
  · cases r1
    rename_i l kvs
    obtain ⟨p, k', rfl, q0, q1⟩ := r2.dic sb
    cases e
    refine h2 pins s σ H _ _ v u Q I rx ry ⟨p, _, rfl, DGet.kr (k := .inr (S l)) q0, ?_⟩
    rcases q1.val (.inr l) with ⟨d', w, h2, h3, h4⟩ | ⟨h2, h3⟩
    · rw [show valV k' (.inr (S l)) = some w from h3]; rw [h2] at k; exact k _ (.bl _)
    · rw [show valV k' (.inr (S l)) = none from h3]; rw [h2] at k; exact k _ (.bl _)
  · rename_i ks kvs
    obtain ⟨kk, e0, e⟩ := bind_ok e
    cases e
    obtain ⟨p, k', rfl, q0, q1⟩ := r2.dct sb
    obtain ⟨b, rfl, hb⟩ := key_tup r1 e0 sb
    refine h2 pins s σ H _ _ v u Q I rx ry ⟨p, _, rfl, DGet.tr q0 hb, ?_⟩
    rcases q1.val kk with ⟨d', w, h2, h3, h4⟩ | ⟨h2, h3⟩
    · rw [h3]; rw [h2] at k; exact k _ (.bl _)
    · rw [h3]; rw [h2] at k; exact k _ (.bl _)
  · obtain ⟨p, vs, rfl, q0, q1⟩ := r2.tup sb
    split at e
    · rename_i q
      rw [Bool.and_eq_true] at q
      cases e
      exact h3 pins s σ H _ _ v u Q I rx ry ⟨p, vs, rfl, .inr q0, flat_v r1 q.1, flat_all q1 q.2, by rw [flat_any q1 q.2 r1 q.1]; exact k _ (.bl _)⟩
    · cases e
  · obtain ⟨p, vs, rfl, q0, q1⟩ := r2.lst sb
    split at e
    · rename_i q
      rw [Bool.and_eq_true] at q
      cases e
      exact h4 pins s σ H _ _ v u Q I rx ry ⟨_, _, rep_dp sb _ _ _ q.1 r1, .lst (SqL.of q0) (reps_dp sb _ _ _ q.2 q1), dok_shaped (by decide) q.1, doks_shaped (by decide) q.2, by rw [any_p q.1 q.2]; exact k _ (.bl _)⟩
    · cases e
  · obtain ⟨p, vs, rfl, q0, q1⟩ := r2.fls sb
    split at e
    · rename_i q
      rw [Bool.and_eq_true] at q
      cases e
      exact h4 pins s σ H _ _ v u Q I rx ry ⟨_, _, rep_dp sb _ _ _ q.1 r1, .lst q0 (reps_dp sb _ _ _ q.2 q1), dok_shaped (by decide) q.1, doks_shaped (by decide) q.2, by rw [any_p q.1 q.2]; exact k _ (.bl _)⟩
    · cases e
  · cases e
theorem op_dIn (hu : X.A.units + 1 < cLine) : OpR X (compareOp .In) (fun y x H Q => ∃ a o, x = .ref a ∧ DGet H a y o ∧ Q (.bl o.isSome) H) := by
  intro pins s σ H x y v u Q I rx ry ⟨a, o, e, g, q⟩
  subst e
  obtain rfl : u = Value.ref a := ry
  exact d_in hu I g rx fun s3 I3 => ⟨.bl o.isSome, H, I3, rfl, q⟩
theorem op_dNotIn (hu : X.A.units + 1 < cLine) : OpR X (compareOp .NotIn) (fun y x H Q => ∃ a o, x = .ref a ∧ DGet H a y o ∧ Q (.bl (!o.isSome)) H) := by
  intro pins s σ H x y v u Q I rx ry ⟨a, o, e, g, q⟩
  subst e
  obtain rfl : u = Value.ref a := ry
  exact d_notIn hu I g rx fun s3 I3 => ⟨.bl (!o.isSome), H, I3, rfl, q⟩
theorem o_inc (hu : X.A.units + 65 < cLine) : OpR X (compareOp .In) (rDc X.K A inD) := inB_use (g := id) hu op_in_sign (op_dIn (by omega)) op_in_seq (op_inD hu)
theorem o_ninc (hu : X.A.units + 65 < cLine) : OpR X (compareOp .NotIn) (rDc X.K A ninD) := inB_use (g := fun b => !b) hu op_notIn_sign (op_dNotIn (by omega)) op_notIn_seq (op_notInD hu)
theorem o_in (hu : X.A.units + 65 < cLine) : OpR X (compareOp .In) (rD X.K A inD) := fun pins s σ H x y v u Q I rx ry h => o_inc hu pins s σ H x y v u Q I rx ry (rD_c nf_in h)
theorem o_nin (hu : X.A.units + 65 < cLine) : OpR X (compareOp .NotIn) (rD X.K A ninD) := fun pins s σ H x y v u Q I rx ry h => o_ninc hu pins s σ H x y v u Q I rx ry (rD_c nf_nin h)
end DY

set_option Elab.async false
set_option linter.all false
set_option maxRecDepth 100000
namespace SL

/-! ### sizes -/
/-- below 2 ^ k in size -/
def Bd (k : Nat) (z : Int) : Prop := z.natAbs < 2 ^ k
theorem Bd.neg {a : Nat} {x : Int} (h : Bd a x) : Bd a (-x) := by
  unfold Bd at *
  rw [Int.natAbs_neg]
  exact h
theorem Bd.of_le {a : Nat} {x y : Int} (h : Bd a y) (l : x.natAbs ≤ y.natAbs) : Bd a x := Nat.lt_of_le_of_lt l h
/-! ### lowest terms -/
/-- the greatest common divisor as an int -/
def gI (n d : Int) : Int := (Int.gcd n d : Int)
theorem gI_pos {n d : Int} (h : d ≠ 0) : 0 < gI n d := by
  unfold gI
  have : 0 < Int.gcd n d := Int.gcd_pos_of_ne_zero_right n h
  omega
theorem gI_nonneg (n d : Int) : 0 ≤ gI n d := by unfold gI; omega
theorem gI_dvd_right (n d : Int) : gI n d ∣ d := Int.gcd_dvd_right ..
/-- numerator and denominator in lowest terms -/
def nm (n d : Int) : Int := n / gI n d
def dn (n d : Int) : Int := d / gI n d
theorem dn_mul (n d : Int) : dn n d * gI n d = d := Int.ediv_mul_cancel (gI_dvd_right n d)
theorem dn_pos {n d : Int} (h : 0 < d) : 0 < dn n d := by
  have e := dn_mul n d
  have g := gI_pos (n := n) (d := d) (by omega)
  rcases Int.lt_or_le 0 (dn n d) with q | q
  · exact q
  · exfalso
    have : dn n d * gI n d ≤ 0 := Int.mul_nonpos_of_nonpos_of_nonneg q (by omega)
    omega
theorem nm_dn_gcd {n d : Int} (h : d ≠ 0) : Int.gcd (nm n d) (dn n d) = 1 := by
  have g := gI_pos (n := n) (d := d) h
  unfold nm dn gI at *
  have h0 : 0 < Int.gcd n d := by omega
  rw [Int.gcd_ediv (Int.gcd_dvd_left ..) (Int.gcd_dvd_right ..)]
  simp
  exact Nat.div_self h0
theorem low_self {n d : Int} (hd : 0 < d) (h : Int.gcd n d = 1) : nm n d = n ∧ dn n d = d := by
  unfold nm dn gI
  rw [h]
  simp
theorem gI_le {n d : Int} (h : 0 < d) : (gI n d).natAbs ≤ d.natAbs := by
  have : gI n d ≤ d := Int.le_of_dvd h (gI_dvd_right n d)
  have := gI_nonneg n d
  omega
/-- one turn of the gcd's loop -/
theorem gcd_turn {h l : Int} (hh : 0 ≤ h) (hl : 0 < l) : gI l (h.fmod l) = gI h l := by
  unfold gI
  rw [Int.fmod_eq_emod_of_nonneg h (by omega)]
  rw [Int.gcd_comm h l]
  congr 1
  rw [Int.emod_def, Int.mul_comm]
  exact Int.gcd_sub_mul_right_right ..
theorem gI_zero {h : Int} (hh : 0 ≤ h) : gI h 0 = h := by
  unfold gI
  rw [Int.gcd_zero_right]
  omega
theorem gI_abs (n d : Int) : gI (if n < 0 then -n else n) (if d < 0 then -d else d) = gI n d := by
  unfold gI
  split <;> split <;> simp
end SL

set_option Elab.async false
set_option linter.all false
set_option maxRecDepth 100000
set_option maxHeartbeats 4000000
namespace SL
open PySem L2 PySem.Spec PyProof.Rows

/-- the classes' addresses; cls: those that values may be of -/
structure Cl where
  C_Ratio : Addr := 0
  C_Form : Addr := 0
  C_Facts : Addr := 0
  C_Puppet : Addr := 0
  C_Script : Addr := 0
  C_Run : Addr := 0
  C_Wish : Addr := 0
  C_InvalidNumber : Addr := 0
  C_InvalidText : Addr := 0
  C_InvalidForm : Addr := 0
  emp : Addr := 0
  cls : List Addr := []
/-- what kind a value is of -/
inductive Ty where
  | non | bl | int | str | lst | tup | dic | cls (C : Addr)
  deriving DecidableEq
/-- what the written part must show of a class of values -/
structure CF (K : PySem.W.Frag) (C : Addr) : Prop where
  cl : Cls K C
  ha : PySem.W.findIn K (.ref C) "__class__" = some (some (.builtin "object.__class__"))
  hn : PySem.W.specialIn K (.builtin "object.__class__") "__get__" = some (some (.builtin "getset_descriptor.__get__"))
  ht : PySem.W.takesIn K (.builtin "object.__class__") = some true
  hm : PySem.W.mroIn K C (.type "object") = some true
  kb : ∀ T ∈ (["int", "bool", "str", "tuple", "list", "dict"] : List String), PySem.W.kitOne K (.ref C) (.type T) = some false
  kt : ∀ T ∈ (["NoneType", "bool", "int", "str", "list", "tuple", "dict"] : List String), PySem.W.kitOne K (.type T) (.ref C) = some false
  nf : ∀ T ∈ (["NoneType", "bool", "int", "str", "list", "tuple", "dict"] : List String), PySem.W.notFirst K C (.type T) = true
section
variable {K : PySem.W.Frag} {a : Cl} {H : Hp} {v : V} {t : Ty} {Q : VK}
end
end SL

set_option Elab.async false
set_option linter.all false
set_option maxRecDepth 100000
set_option maxHeartbeats 4000000
namespace DY
open PySem L2 PySem.Spec PyProof.Rows
variable [Tb]
section
variable {K : PySem.W.Frag} {A : CT} {G G' G1 G2 H H' H1 H2 : Hp} {σ : L2.St} {ρ ρ1 ρ2 ρ' : Env} {Q : VK}
/-! ### looks at slots -/
theorem look_ok {i : Nat} {d : D} (h : look ρ i = .ok d) : ρ[i]? = some (.sh d) ∨ ρ[i]? = some (.ow d) := by
  unfold look at h
  split at h
  · cases h; rename_i q; exact .inl q
  · cases h; rename_i q; exact .inr q
  · cases h
theorem look_at {i : Nat} {d : D} (s : St K A σ G H ρ) (h : look ρ i = .ok d) : ∃ v, σ[i]? = some (some v) ∧ RepB K A G H v d := by
  rcases look_ok h with h | h
  · obtain ⟨v, e, r⟩ := s.slot i _ h
    exact ⟨v, getD_some e, .inl r⟩
  · obtain ⟨p, e, n, z⟩ := s.slot i _ h
    exact ⟨.ref p, getD_some e, .inr ⟨p, rfl, n, z⟩⟩
theorem bor_use {f : D → D → R Rv} {i : Nat} {mb : Ev} (nf : ∀ x y r, f x y = .ok r → r.2 = false) (h : liftE K A (eBor f i mb) σ H Q) : tVar i σ H fun x H1 => liftE K A mb σ H1 fun y H2 => rDb K A f x y H2 Q := by
  obtain ⟨G, ρ, r, ρ', s, e, k⟩ := h
  obtain ⟨d0, e0, e⟩ := bind_ok e
  obtain ⟨⟨d2, ρ1⟩, e1, e⟩ := bind_ok e
  obtain ⟨d1, e2, e⟩ := bind_ok e
  obtain ⟨⟨d, b⟩, e3, e⟩ := bind_ok e
  obtain rfl : b = false := nf _ _ _ e3
  cases e
  obtain ⟨v, hv, _⟩ := look_at s e0
  refine ⟨v, hv, use_val s e1 fun y G1 H1 n r2 => ?_⟩
  obtain ⟨v', hv', r1⟩ := look_at n.st e2
  rw [hv] at hv'
  cases hv'
  exact ⟨G1, d1, d2, d, n.st.sub, r1, r2, e3, fun w rw' => k w G1 H1 n (RepR.of rw')⟩
theorem borR_use {f : D → D → R Rv} {i : Nat} {ma : Ev} (nf : ∀ x y r, f x y = .ok r → r.2 = false) (h : liftE K A (eBorR f ma i) σ H Q) : liftE K A ma σ H fun x H1 => tVar i σ H1 fun y H2 => rDc K A f x y H2 Q := by
  obtain ⟨G, ρ, r, ρ', s, e, k⟩ := h
  obtain ⟨⟨d2, ρ1⟩, e1, e⟩ := bind_ok e
  obtain ⟨d1, e2, e⟩ := bind_ok e
  obtain ⟨⟨d, b⟩, e3, e⟩ := bind_ok e
  obtain rfl : b = false := nf _ _ _ e3
  cases e
  refine use_val s e1 fun y G1 H1 n r2 => ?_
  obtain ⟨v', hv', r1⟩ := look_at n.st e2
  exact ⟨v', hv', G1, d2, d1, d, n.st.sub, r2, r1, e3, fun w rw' => k w G1 H1 n (RepR.of rw')⟩
theorem bor1_use {f : D → R Rv} {i : Nat} (nf : ∀ x r, f x = .ok r → r.2 = false) (h : liftE K A (eBor1 f i) σ H Q) : tCons (tVar i) tNil σ H fun xs H2 => rDb1 K A f xs H2 Q := by
  obtain ⟨G, ρ, r, ρ', s, e, k⟩ := h
  obtain ⟨d1, e2, e⟩ := bind_ok e
  obtain ⟨⟨d, b⟩, e3, e⟩ := bind_ok e
  obtain rfl : b = false := nf _ _ e3
  cases e
  obtain ⟨v', hv', r1⟩ := look_at s e2
  exact ⟨v', hv', G, v', d1, d, rfl, s.sub, r1, e3, fun w rw' => k w G H (Nx.refl s) (RepR.of rw')⟩
end
section
variable {X : Cx} {A : CT} {a b : Expr} {ma mb : Ev} {pos pos' p : Pos} {x : Str}
theorem pd_borix {i : Nat} (hu : X.A.units + 1 < cLine) (h : PE X (.Name x pos') (tVar i)) (hb : PD A X b mb) (hs : PlainIx b) : PD A X (.Subscript (.Name x pos') b pos) (eBor ixD i mb) := PE.imp (pe_ix (o_ixb hu) h hb hs) fun _ _ _ => bor_use nf_ix
theorem pdt_borin {i : Nat} (hu : X.A.units + 65 < cLine) (ha : PD A X a ma) (h : PE X (.Name x pos') (tVar i)) (hm : behindInMarks .In (.Name x pos') = false) : PDT A X (.Compare a [.In] [.Name x pos'] pos) (eBorR inD ma i) := PT.imp (pt_cmpR (o_inc hu) ha h hm) fun _ _ _ h => borR_use nf_in (test_use h)
end
/-! ### slices -/
section
variable {K : PySem.W.Frag} {A : CT} {G H : Hp} {σ : L2.St} {Q : VK}
variable (K A) in
def liftO (m : Option Ev) : TO := fun σ H Q => ∃ G ρ l ρ', St K A σ G H ρ ∧ part m ρ = .ok (l, ρ') ∧ ∀ G' H', Nx K A σ G H ρ G' H' ρ' → Q l H'
abbrev PDO (A : CT) (X : Cx) (e : Option Expr) (m : Option Ev) : Prop := PO X e (liftO X.K A m)
theorem PO.imp {X : Cx} {e : Option Expr} {t t' : TO} (h : PO X e t) (k : ∀ σ H Q, t' σ H Q → t σ H Q) : PO X e t' := ⟨fun pins s σ H Q I q => h.run pins s σ H Q I (k σ H Q q)⟩
theorem pdo_none {X : Cx} : PDO A X none none := PO.imp po_none fun σ H Q h => by
  obtain ⟨G, ρ, l, ρ', s, e, k⟩ := h
  cases e
  exact k G H (Nx.refl s)
theorem pdo_some {X : Cx} {e : Expr} {m : Ev} (he : PD A X e m) : PDO A X (some e) (some m) := PO.imp (po_some he) fun σ H Q h => by
  obtain ⟨G, ρ, l, ρ', s, e, k⟩ := h
  obtain ⟨⟨x, ρ1⟩, e1, e⟩ := bind_ok e
  refine use_val s e1 fun v G1 H1 n r => ?_
  dsimp only at e
  split at e
  · cases e
    cases r
    exact ⟨_, rfl, k G1 H1 n⟩
  · cases e
variable (K A) in
def rSlD : V → Option Int → Option Int → Hp → VK → Prop := fun x lo hi H Q => rDu K A (sliceD lo hi) x H Q
theorem cutV_reps {vs : List V} {ds : List D} (r : Reps K A G vs ds) (lo hi : Option Int) : Reps K A G (cutV vs lo hi) (cut ds lo hi) := by
  unfold cutV cut
  rw [r.len]
  exact (r.drop _).take _
theorem cut_whole {α : Type} {xs : List α} {lo hi : Option Int} (h1 : DY.sIx xs.length 0 lo = 0) (h2 : DY.sIx xs.length xs.length hi = xs.length) : cut xs lo hi = xs := by
  unfold cut
  rw [h1, h2]; simp
def rSlF (K : PySem.W.Frag) : V → Option Int → Option Int → Hp → VK → Prop := fun x lo hi H Q => ∃ a xs, x = .ref a ∧ SqT K H a xs ∧
  (HT.sIx xs.length 0 lo = 0 ∧ HT.sIx xs.length xs.length hi = xs.length → Q (.ref a) H) ∧ (¬ (HT.sIx xs.length 0 lo = 0 ∧ HT.sIx xs.length xs.length hi = xs.length) → ∀ p o, o.dict = none → H p = none → Q (.ref p) (upd H p (.frz o (.tup (cutV xs lo hi)))))
theorem sl_tupF {X : Cx} : SlR X (rSlF X.K) := by
  intro pins s σ H x v vl vu lo hi sl Q I rx hs pl pu h
  obtain ⟨a, xs, rfl, hx, q1, q2⟩ := h
  cases rx
  obtain ⟨its, r, ht, hz⟩ := I.tuple hx
  have hlen : its.toArray.size = xs.length := by rw [List.size_toArray]; exact r.length.symm
  refine ⟨"tuple", _, PyProof.Rows.slot_tuple_getitem.lookup, ht.typeIs, ?_⟩
  by_cases hw : HT.sIx xs.length 0 lo = 0 ∧ HT.sIx xs.length xs.length hi = xs.length
  · exact getItem_tuple_whole ht hs pl pu (by rw [hlen]; exact hw) ⟨.ref a, H, I, rfl, q1 hw⟩
  · refine HT.getItem_tuple_cut ht hs pl pu (by rw [hlen]; exact hw) ?_ (by rw [hlen]; exact hz)
    rw [hlen]
    refine ⟨.ref s.heap.objs.size, _, I.laid (t' := s.toks) (o := .frz { cls := .type "tuple", data := .seq ((its.toArray.toList.drop (HT.sIx xs.length 0 lo)).take (HT.sIx xs.length xs.length hi - HT.sIx xs.length 0 lo)).toArray } (.tup (cutV xs lo hi))) (fun b ob q => Heap.get?_push_of_some _ q) (Nat.le_refl _) ?_, rfl, q2 hw _ _ rfl (I.hok.fresh (Nat.le_refl _))⟩
    exact ⟨Heap.get?_push_size _ rfl, Nat.le_trans (cutV_length xs lo hi) hz, _, (r.drop (HT.sIx xs.length 0 lo)).take (HT.sIx xs.length xs.length hi - HT.sIx xs.length 0 lo), IsTup.new _ _⟩
theorem o_slice {X : Cx} : SlR X (rSlD X.K A) := by
  intro pins s σ H x v vl vu lo hi sl Q I rx hs pl pu h
  obtain ⟨G, d, r, sb, r1, e, k⟩ := h
  unfold sliceD at e
  split at e
  · cases r1 with | lst h1 q1 =>
    cases e
    refine sl_list pins s σ H _ v vl vu lo hi sl Q I rx hs pl pu ⟨_, _, rfl, SqL.of (sb.lst h1), fun p n => ?_⟩
    obtain ⟨n0, rr⟩ := new_lst (K := X.K) (A := A) sb n (cutV_reps q1 lo hi)
    exact k _ _ _ n0 rr
  · cases r1 with | fls h1 q1 =>
    cases e
    refine sl_list pins s σ H _ v vl vu lo hi sl Q I rx hs pl pu ⟨_, _, rfl, sb.sqL h1, fun p n => ?_⟩
    obtain ⟨n0, rr⟩ := new_lst (K := X.K) (A := A) sb n (cutV_reps q1 lo hi)
    exact k _ _ _ n0 rr
  · obtain ⟨p, vs, rfl, h1, q1⟩ := r1.sqT sb
    cases e
    refine sl_tupF pins s σ H _ v vl vu lo hi sl Q I rx hs pl pu ⟨_, _, rfl, h1, fun z => ?_, fun _ p o ho n => ?_⟩
    · rw [q1.len] at z
      rw [cut_whole z.1 z.2] at k
      exact same_end sb r1 k
    · obtain ⟨n0, rr⟩ := new_tup (K := X.K) (A := A) sb n ho (cutV_reps q1 lo hi)
      exact k _ _ _ n0 (RepR.of rr)
  · cases r1
    rename_i l
    split at e
    · rename_i q
      cases e
      refine sl_str pins s σ H _ v vl vu lo hi sl Q I rx hs pl pu ⟨_, rfl, by rw [S_len]; exact szK q, ?_⟩
      have : cutS (S l) lo hi = S (cut l lo hi) := by
        unfold cutS cut
        rw [S_toList, S_len]; rfl
      rw [this]
      exact same_end sb (.str _) k
    · cases e
  · cases e
theorem slice_use {ma : Ev} {ml mh : Option Ev} (h : liftE K A (eSlice ma ml mh) σ H Q) : tSl (rSlD K A) (liftE K A ma) (liftO K A ml) (liftO K A mh) σ H Q := by
  obtain ⟨G, ρ, r, ρ', s, e, k⟩ := h
  obtain ⟨⟨d1, ρ1⟩, e1, e⟩ := bind_ok e
  obtain ⟨⟨l, ρ2⟩, e2, e⟩ := bind_ok e
  obtain ⟨⟨h, ρ3⟩, e3, e⟩ := bind_ok e
  obtain ⟨r', e4, e⟩ := bind_ok e
  cases e
  refine use_val s e1 fun x G1 H1 n1 r1 => ⟨G1, ρ1, l, ρ2, n1.st, e2, fun G2 H2 n2 => ⟨G2, ρ2, h, _, n2.st, e3, fun G3 H3 n3 => ?_⟩⟩
  exact ⟨G3, d1, r, n3.st.sub, (r1.mono n2.gs).mono n3.gs, e4, end_of ((n1.trans n2).trans n3) k⟩
theorem pd_slice {X : Cx} {a : Expr} {lo hi : Option Expr} {ma : Ev} {ml mh : Option Ev} {p2 pos : Pos} (ha : PD A X a ma) (hl : PDO A X lo ml) (hh : PDO A X hi mh) : PD A X (.Subscript a (.Slice lo hi none p2) pos) (eSlice ma ml mh) := PE.imp (pe_slice o_slice ha hl hh) fun _ _ _ => slice_use
end
/-! ### types -/
/-- what the written part shows of the classes -/
structure KD (K : PySem.W.Frag) (A : CT) : Prop where
  cf : ∀ c ∈ A.cs, SL.CF K (A.ad c)
  cc : ∀ c ∈ A.cs, ∀ c' ∈ A.cs, PySem.W.kitOne K (.ref (A.ad c)) (.ref (A.ad c')) = some (decide (c = c'))
  nn : ∀ c ∈ A.cs, ∀ c' ∈ A.cs, PySem.W.notFirst K (A.ad c) (.ref (A.ad c')) = true
def tyD (A : CT) : D → Option Value
  | .non => some (.type "NoneType")
  | .bl _ => some (.type "bool")
  | .int _ => some (.type "int")
  | .str _ => some (.type "str")
  | .tup _ => some (.type "tuple")
  | .lst _ => some (.type "list")
  | .dic _ => some (.type "dict")
  | .ins c _ => some (.ref (A.ad c))
  | _ => none
theorem rep_ty {K : PySem.W.Frag} {A : CT} {G H : Hp} {x : V} {d : D} {t : Value} (kd : KD K A) (sb : Sub G H) (r : Rep K A G x d) (e : tyD A d = some t) : TyX K H x t := by
  cases r with
  | non => cases e; exact .base .non
  | bl b => cases e; exact .base (.bl b)
  | int i => cases e; exact .base (.int i)
  | str l => cases e; exact .base (.str _)
  | lst h q => cases e; exact .base (.lst (sb.lst h))
  | tup n h q => cases e; exact .fTuple (sb.frt h)
  | emp a b c d => cases e; exact .kTuple a b
  | dic h q =>
    cases e
    rcases sb.dK h with h | ⟨o, h⟩
    · exact .base (.dK h)
    · exact .fDict h
  | ins h l c q => cases e; exact .base (.ins (sb.ins h) (kd.cf _ c).cl (kd.cf _ c).ha (kd.cf _ c).hn (kd.cf _ c).ht (kd.cf _ c).hm)
  | _ => cases e
theorem kit_D {K : PySem.W.Frag} {A : CT} {G : Hp} {x : V} {d : D} {t : BT} {b : Bool} (kd : KD K A) (r : Rep K A G x d) (e : isB1 t d = some b) : ∃ u, tyD A d = some u ∧ PySem.W.kitOne K u (.type t.nm) = some b := by
  cases r with
  | ins h l c q =>
    refine ⟨_, rfl, ?_⟩
    have kb := (kd.cf _ c).kb
    cases t <;> first | (cases e; done) | (cases e; exact kb _ (by simp [BT.nm]))
  | _ =>
    cases t <;> first | (cases e; done) | (cases e; exact ⟨_, rfl, kit_ty (by decide +kernel)⟩)
section
variable {X : Cx} {A : CT}
theorem o_isi (kd : KD X.K A) : CallR X (.builtin "isinstance") (rDn X.K A isiD) := by
  intro pins s σ H xs us Q I r h
  obtain ⟨G, ds, r0, sb, rs, e, k⟩ := h
  unfold isiD at e
  split at e
  · rename_i x t
    obtain ⟨v1, v2, rfl, r1, r2⟩ := rs.inv2
    cases r2
    split at e
    · rename_i b hb
      cases e
      obtain ⟨u, h1, h2⟩ := kit_D kd r1 hb
      exact call_isi pins s σ H _ us Q I r ⟨_, _, _, _, _, rfl, .ty _, rep_ty kd sb r1 h1, h2, same_end sb (.bl _) k⟩
    · cases e
  · rename_i c0 f0 c1
    obtain ⟨v1, v2, rfl, r1, r2⟩ := rs.inv2
    cases r2 with | cls _ hc' =>
    cases e
    have hc : c0 ∈ A.cs := by cases r1 with | ins h l c q => exact c
    exact call_isi pins s σ H _ us Q I r ⟨_, _, _, _, _, rfl, .own _, rep_ty kd sb r1 rfl, kd.cc _ hc _ hc', same_end sb (.bl _) k⟩
  · cases e
  · cases e
  · cases e
  · cases e
  · cases e
  · cases e
  · rename_i x c n1 n2 n3 n6 n4 n5 n7
    obtain ⟨v1, v2, rfl, r1, r2⟩ := rs.inv2
    cases r2 with | cls _ hc' =>
    cases e
    have kt := (kd.cf _ hc').kt
    have fin : ∀ T, tyD A x = some (.type T) → T ∈ (["NoneType", "bool", "int", "str", "list", "tuple", "dict"] : List String) → wpAny (model X.prog X.w) X.A (call (.builtin "isinstance") us) (EP X pins σ Q) X.xe s := fun T h1 h2 =>
      call_isi pins s σ H _ us Q I r ⟨_, _, _, _, _, rfl, .own _, rep_ty kd sb r1 h1, kt T h2, same_end sb (.bl _) k⟩
    cases x with
    | non => exact fin _ rfl (by simp)
    | bl _ => exact fin _ rfl (by simp)
    | int _ => exact fin _ rfl (by simp)
    | str _ => exact fin _ rfl (by simp)
    | tup _ => exact fin _ rfl (by simp)
    | lst _ => exact fin _ rfl (by simp)
    | dic _ => exact fin _ rfl (by simp)
    | ins c' f => exact absurd rfl (n1 c' f)
    | fls l => exact absurd rfl (n2 l)
    | dct l => exact absurd rfl (n3 l)
    | kt l => exact absurd rfl (n6 l)
    | ty l => exact absurd rfl (n4 l)
    | cls l => exact absurd rfl (n5 l)
    | any => exact absurd rfl n7
  · cases e
/-! len -/
theorem o_noN {f : Value} : CallR X f (rDb1 X.K A no1) := by
  intro pins s σ H xs us Q I r h
  obtain ⟨G, x, d1, d, rfl, sb, r1, e, k⟩ := h
  cases e
theorem call_lenD {kvs0 : True} : CallR X (.builtin "len") (fun xs H Q => ∃ a kvs, xs = [.ref a] ∧ Rd H a (.dK kvs) ∧ Q (.int kvs.length) H) := by
  intro pins s σ H xs us Q I r h
  obtain ⟨a, kvs, rfl, e, q⟩ := h
  obtain rfl := Vals.ref1 r
  exact d_len I e fun t s' I' => ⟨.int _, H, I', ⟨t, rfl⟩, q⟩
theorem o_lenb {own : D → R Rv} (ho : CallR X (.builtin "len") (rDb1 X.K A own)) : CallR X (.builtin "len") (rDb1 X.K A (lenB own)) := by
  intro pins s σ H xs us Q I r h
  obtain ⟨G, x, d1, d, rfl, sb, r1, e, k⟩ := h
  unfold lenB at e
  split at e
  · obtain rfl := r1.str
    split at e
    · rename_i q
      cases e
      refine call_len pins s σ H _ us Q I r ⟨_, _, rfl, ⟨by rw [S_len]; exact szK q, rfl⟩, ?_⟩
      rw [S_len]; exact k _ (.int _)
    · cases e
  · obtain ⟨p, vs, rfl, h1, q1⟩ := r1.lst sb
    cases e
    exact call_len pins s σ H _ us Q I r ⟨_, _, rfl, .inl ⟨vs, SqL.of h1, rfl⟩, by rw [q1.len]; exact k _ (.int _)⟩
  · obtain ⟨p, vs, rfl, h1, q1⟩ := r1.fls sb
    cases e
    exact call_len pins s σ H _ us Q I r ⟨_, _, rfl, .inl ⟨vs, h1, rfl⟩, by rw [q1.len]; exact k _ (.int _)⟩
  · obtain ⟨p, vs, rfl, h1, q1⟩ := r1.tup sb
    cases e
    exact call_len pins s σ H _ us Q I r ⟨_, _, rfl, .inr ⟨vs, h1, rfl⟩, by rw [q1.len]; exact k _ (.int _)⟩
  · obtain ⟨p, kvs, rfl, h1, q1⟩ := r1.dic sb
    cases e
    exact call_lenD (kvs0 := trivial) pins s σ H _ us Q I r ⟨p, kvs, rfl, h1, by rw [q1.len]; exact k _ (.int _)⟩
  · exact ho pins s σ H _ us Q I r ⟨G, x, d1, d, rfl, sb, r1, e, k⟩
theorem nf_len {own : D → R Rv} (nf : ∀ x r, own x = .ok r → r.2 = false) (x : D) (r : Rv) (e : lenB own x = .ok r) : r.2 = false := by
  unfold lenB at e
  split at e
  · split at e
    · cases e; rfl
    · cases e
  all_goals first | (cases e; rfl) | exact nf _ _ e
theorem nf_no1 (x : D) (r : Rv) (e : no1 x = .ok r) : r.2 = false := by cases e
/-! numbers -/
theorem o_abs : CallR X (.builtin "abs") (rDn X.K A absD) := by
  intro pins s σ H xs us Q I r h
  obtain ⟨G, ds, r0, sb, rs, e, k⟩ := h
  unfold absD at e
  split at e
  · obtain ⟨v1, rfl, r1⟩ := rs.inv1
    cases r1; cases e
    exact call_abs pins s σ H _ us Q I r ⟨_, rfl, same_end sb (.int _) k⟩
  · cases e
theorem o_max (hc : X.calm = true) : CallR X (.builtin "max") (rDn X.K A maxD) := by
  intro pins s σ H xs us Q I r h
  obtain ⟨G, ds, r0, sb, rs, e, k⟩ := h
  unfold maxD at e
  split at e
  · obtain ⟨v1, v2, rfl, r1, r2⟩ := rs.inv2
    cases r1; cases r2; cases e
    exact call_max2 hc pins s σ H _ us Q I r ⟨_, _, rfl, same_end sb (.int _) k⟩
  · cases e
theorem o_min (hc : X.calm = true) : CallR X (.builtin "min") (rDn X.K A minD) := by
  intro pins s σ H xs us Q I r h
  obtain ⟨G, ds, r0, sb, rs, e, k⟩ := h
  unfold minD at e
  split at e
  · obtain ⟨v1, v2, rfl, r1, r2⟩ := rs.inv2
    cases r1; cases r2; cases e
    exact call_min2 hc pins s σ H _ us Q I r ⟨_, _, rfl, same_end sb (.int _) k⟩
  · cases e
theorem o_int : CallR X (.type "int") (rDn X.K A intD) := by
  intro pins s σ H xs us Q I r h
  obtain ⟨G, ds, r0, sb, rs, e, k⟩ := h
  unfold intD at e
  split at e
  · obtain ⟨v1, rfl, r1⟩ := rs.inv1
    cases r1; cases e
    exact call_int1 pins s σ H _ us Q I r (.inl ⟨_, rfl, same_end sb (.int _) k⟩)
  · obtain ⟨v1, rfl, r1⟩ := rs.inv1
    cases r1; cases e
    exact call_int1 pins s σ H _ us Q I r (.inr ⟨_, rfl, same_end sb (.int _) k⟩)
  · cases e
/-! lists of one kind -/
theorem bools_rep {K : PySem.W.Frag} {G : Hp} {vs : List V} {ds : List D} {bs : List Bool} (r : Reps K A G vs ds) (e : boolsOf ds = .ok bs) : vs = bs.map V.bl := by
  induction ds generalizing vs bs with
  | nil => cases r; cases e; rfl
  | cons d ds ih =>
    cases r with | cons a b =>
    unfold boolsOf at e
    split at e
    · rename_i h; cases h
    · rename_i h; cases h
      obtain ⟨bs', e1, e⟩ := bind_ok e
      cases e
      cases a
      rw [ih b e1]; rfl
    · cases e
theorem o_all (hc : X.calm = true) : CallR X (.builtin "all") (rDn X.K A allD) := by
  intro pins s σ H xs us Q I r h
  obtain ⟨G, ds, r0, sb, rs, e, k⟩ := h
  unfold allD at e
  split at e
  · obtain ⟨v1, rfl, r1⟩ := rs.inv1
    cases r1 with | lst h1 q1 =>
    obtain ⟨bs, e1, e⟩ := bind_ok e
    cases e
    have := bools_rep q1 e1
    subst this
    exact cr_all hc pins s σ H _ us Q I r ⟨_, _, rfl, SqL.of (sb.lst h1), same_end sb (.bl _) k⟩
  · cases e
/-! sorted -/
end
end DY

set_option Elab.async false
set_option linter.all false
set_option maxRecDepth 100000
set_option maxHeartbeats 4000000
namespace DY
open PySem L2 PySem.Spec PyProof.Rows
variable [Tb]
section
variable {X : Cx} {A : CT}
/-! ### tuple, list, dict -/
/-! ### str -/
theorem figs_eq (i : Int) : (toString i : Str) = S (figs i) := by
  show Str.ofString (toString i) = S (figs i)
  rw [Str.ofString_eq_toList]
  rfl
theorem o_str {own : D → R Rv} (ho : CallR X (.type "str") (fun xs H Q => ∃ x, xs = [x] ∧ rDu X.K A own x H Q)) : CallR X (.type "str") (rDn X.K A (strD own)) := by
  intro pins s σ H xs us Q I r h
  obtain ⟨G, ds, r0, sb, rs, e, k⟩ := h
  unfold strD at e
  split at e
  · obtain ⟨v1, rfl, r1⟩ := rs.inv1
    cases r1
    split at e
    · rename_i q
      cases e
      exact call_str_int pins s σ H _ us Q I r ⟨_, rfl, q, by rw [figs_eq]; exact same_end sb (.str _) k⟩
    · cases e
  · obtain ⟨v1, rfl, r1⟩ := rs.inv1
    cases r1
    cases e
    exact SL.call_strSX pins s σ H _ us Q I r ⟨_, rfl, same_end sb (.str _) k⟩
  · obtain ⟨v1, rfl, r1⟩ := rs.inv1
    exact ho pins s σ H _ us Q I r ⟨v1, rfl, G, _, r0, sb, r1, e, k⟩
  · cases e
theorem o_noS : CallR X (.type "str") (fun xs H Q => ∃ x, xs = [x] ∧ rDu X.K A no1 x H Q) := by
  intro pins s σ H xs us Q I r h
  obtain ⟨x, rfl, G, d, r0, sb, r1, e, k⟩ := h
  cases e
end
end DY

set_option Elab.async false
set_option linter.all false
set_option maxRecDepth 100000
set_option maxHeartbeats 4000000
/-! ### rules for statements -/
namespace DY
open PySem L2 PySem.Spec PyProof.Rows
variable [Tb]
/-- a def's entry: what is shared, the heap, the lent object -/
structure Bs where
  G : Hp
  H : Hp
  O : Option Addr
structure StF (K : PySem.W.Frag) (A : CT) (j : Option Nat) (B : Bs) (σ : L2.St) (G H : Hp) (ρ : Env) : Prop where
  st : St K A σ G H ρ
  ext : Ext (fun p => B.O = some p) B.G B.H G H
  own : ∀ i p, Own σ ρ i p → (j = some i → B.O = some p) ∧ (j ≠ some i → B.H p = none)
section
variable {K : PySem.W.Frag} {A : CT} {j : Option Nat} {B : Bs} {G G' G1 H H' H1 : Hp} {σ σ' : L2.St} {ρ ρ1 ρ2 ρ' : Env} {D : Ends}
theorem StF.step (s : StF K A j B σ G H ρ) (n : Nx K A σ G H ρ G' H' ρ') : StF K A j B σ G' H' ρ' := by
  refine ⟨n.st, s.ext.trans n.ext fun p ⟨i, z⟩ => ?_, fun i p z => s.own i p (n.own i p z)⟩
  by_cases e : j = some i
  · exact .inl ((s.own i p z).1 e)
  · exact .inr ((s.own i p z).2 e)
/-- what is new here is new since the entry -/
theorem StF.fresh (s : StF K A j B σ G H ρ) {p : Addr} (h : H p = none) : B.H p = none := by
  cases q : B.H p with
  | none => rfl
  | some o => exact absurd h (s.ext.there p (by rw [q]; exact fun x => nomatch x))
variable (K A j B D) in
def SOut (o : Out) (ρ' : Env) : Prop :=
  match o with
  | .nx => ∀ σ' G' H', StF K A j B σ' G' H' ρ' → D.nx σ' H'
  | .bk => ∀ σ' G' H', StF K A j B σ' G' H' ρ' → D.bk σ' H'
  | .ct => ∀ σ' G' H', StF K A j B σ' G' H' ρ' → D.ct σ' H'
  | .rt r => ∀ v σ' G' H', StF K A j B σ' G' H' ρ' → RepR K A (OwnS σ' ρ') B.H G' H' v r → D.rt v H'
variable (K A j) in
def liftS (m : Sv) : TS := fun D σ H => ∃ B G ρ o ρ', StF K A j B σ G H ρ ∧ m ρ = .ok (o, ρ') ∧ SOut K A j B D o ρ'
end
abbrev PDS (A : CT) (j : Option Nat) (X : Cx) (s : Stmt) (m : Sv) : Prop := PS X s (liftS X.K A j m)
abbrev PDSs (A : CT) (j : Option Nat) (X : Cx) (s : List Stmt) (m : Sv) : Prop := PSs X s (liftS X.K A j m)
section
variable {X : Cx} {A : CT} {j : Option Nat} {st : Stmt} {rest : List Stmt} {m m' : Sv} {e a b c : Expr} {me ma mb mc : Ev} {pos pos' : Pos}
theorem pdss_nil : PDSs A j X [] sNext := PSs.imp pss_nil fun D σ H h => by
  obtain ⟨B, G, ρ, o, ρ', s, e, k⟩ := h
  cases e
  exact k σ G H s
theorem pdss_one (h : PDS A j X st m) : PDSs A j X [st] m := pss_one h
theorem pdss_cons (h1 : PDS A j X st m) (h2 : PDSs A j X rest m') : PDSs A j X (st :: rest) (sSeq m m') := PSs.imp (pss_cons h1 h2) fun D σ H h => by
  obtain ⟨B, G, ρ, o, ρ', s, e, k⟩ := h
  obtain ⟨⟨o1, ρ1⟩, e1, e⟩ := bind_ok e
  refine ⟨B, G, ρ, o1, ρ1, s, e1, ?_⟩
  cases o1 with
  | nx => exact fun σ' G' H' s' => ⟨B, G', ρ1, o, ρ', s', e, k⟩
  | bk => cases e; exact k
  | ct => cases e; exact k
  | rt r => cases e; exact k
theorem pds_no : PDS A j X st sNo := PS.imp ps_never fun D σ H h => by
  obtain ⟨B, G, ρ, o, ρ', s, e, k⟩ := h
  cases e
theorem pds_expr (he : PD A X e me) (hs : swapsWith e none pos.line X.env = pure false := by rfl) : PDS A j X (.Expr e pos) (sExpr me) := PS.imp (ps_expr he hs) fun D σ H h => by
  obtain ⟨B, G, ρ, o, ρ', s, e, k⟩ := h
  obtain ⟨⟨x, ρ1⟩, e1, e⟩ := bind_ok e
  cases e
  exact use_val s.st e1 fun v G1 H1 n r => k σ G1 H1 (s.step n)
theorem pds_ret (he : PD A X e me) : PDS A j X (.Return (some e) pos) (sRet me) := PS.imp (ps_ret he) fun D σ H h => by
  obtain ⟨B, G, ρ, o, ρ', s, e, k⟩ := h
  obtain ⟨⟨r, ρ1⟩, e1, e⟩ := bind_ok e
  cases e
  refine ⟨G, ρ, r, _, s.st, e1, fun v G1 H1 n h => k v σ G1 H1 (s.step n) ?_⟩
  unfold RepR at *
  split at h
  · rename_i q
    rw [if_pos q]
    obtain ⟨p, e, h1, h2, h3, h4⟩ := h
    exact ⟨p, e, h1, h2, h3, s.fresh h4⟩
  · rename_i q
    rw [if_neg q]; exact h
/-- return x -/
theorem pds_retV {i : Nat} {x : Str} (h : PE X (.Name x pos') (tVar i)) (hj : j ≠ some i) : PDS A j X (.Return (some (.Name x pos')) pos) (sRetV i) := PS.imp (ps_ret h) fun D σ H h => by
  obtain ⟨B, G, ρ, o, ρ', s, e, k⟩ := h
  obtain ⟨⟨r, ρ1⟩, e1, e⟩ := bind_ok e
  cases e
  unfold eMove at e1
  split at e1
  · rename_i d hd
    cases e1
    obtain ⟨v, e2, rv⟩ := s.st.slot i _ hd
    exact ⟨v, getD_some e2, k v σ G H s (RepR.of rv)⟩
  · rename_i d hd
    cases e1
    obtain ⟨p, e2, n, z⟩ := s.st.slot i _ hd
    have e3 := getD_some e2
    have no : ¬ OwnS σ (ρ.set i .un) p := fun ⟨i', z⟩ => by
      have := own_set (s := .un) (fun _ z => nomatch z) z
      exact this.2 (s.st.dist i' i p this.1 ⟨⟨d, hd⟩, e3⟩)
    refine ⟨.ref p, e3, k _ σ G H ⟨s.st.put (fun _ z => nomatch z) trivial, s.ext, fun i' p' z => s.own i' p' (own_set (s := .un) (fun _ z => nomatch z) z).1⟩ (RepR.new n z no ?_)⟩
    exact (s.own i p ⟨⟨d, hd⟩, e3⟩).2 hj
  · cases e1
theorem pds_if {sa sb : List Stmt} (hc : PDT A X c mc) (ha : PDSs A j X sa m) (hb : PDSs A j X sb m') : PDS A j X (.If c sa sb pos) (sIf mc m m') := PS.imp (ps_if hc ha hb) fun D σ H h => by
  obtain ⟨B, G, ρ, o, ρ', s, e, k⟩ := h
  obtain ⟨⟨x, ρ1⟩, e1, e⟩ := bind_ok e
  obtain ⟨c, e2, e⟩ := bind_ok e
  cases isB_ok e2
  refine ⟨G, ρ, c, ρ1, s.st, e1, fun G1 H1 n => ?_⟩
  cases c with
  | true => exact iteT ⟨B, G1, ρ1, o, ρ', s.step n, e, k⟩
  | false => exact iteF ⟨B, G1, ρ1, o, ρ', s.step n, e, k⟩
end
/-! ### names that are stored -/
section
variable {K : PySem.W.Frag} {A : CT} {j : Option Nat} {B : Bs} {G G' G1 H H' H1 : Hp} {σ σ' : L2.St} {ρ ρ1 ρ2 ρ' : Env} {D : Ends}
theorem own_setσ {i k : Nat} {p : Addr} {v : V} {s : Slot} (h : Own (σ.set i (some v)) (ρ.set i s) k p) : (k ≠ i ∧ Own σ ρ k p) ∨ (k = i ∧ v = .ref p ∧ ∃ d, s = .ow d) := by
  obtain ⟨⟨d, h1⟩, h2⟩ := h
  by_cases e : i = k
  · subst e
    rw [List.getElem?_set_self'] at h1 h2
    refine .inr ⟨rfl, ?_⟩
    cases q : ρ[i]? with
    | none => rw [q] at h1; cases h1
    | some x =>
      rw [q] at h1
      cases q2 : σ[i]? with
      | none => rw [q2] at h2; cases h2
      | some y =>
        rw [q2] at h2
        exact ⟨Option.some.inj (Option.some.inj h2), d, Option.some.inj h1⟩
  · rw [List.getElem?_set_ne e] at h1 h2
    exact .inl ⟨fun z => e z.symm, ⟨d, h1⟩, h2⟩
/-- slot i holds a value that stays -/
theorem St.store {i : Nat} {v : V} {d : DY.D} (s : St K A σ G H ρ) (r : Rep K A G v d) : St K A (σ.set i (some v)) G H (ρ.set i (.sh d)) ∧ ∀ k p, Own (σ.set i (some v)) (ρ.set i (.sh d)) k p → Own σ ρ k p ∧ k ≠ i := by
  have ow : ∀ k p, Own (σ.set i (some v)) (ρ.set i (.sh d)) k p → Own σ ρ k p ∧ k ≠ i := fun k p z => by
    rcases own_setσ z with z | ⟨_, _, d', z⟩
    · exact ⟨z.2, z.1⟩
    · cases z
  refine ⟨⟨s.sub, by rw [List.length_set, List.length_set]; exact s.len, fun k z hz => ?_, fun a b p ha hb => s.dist a b p (ow a p ha).1 (ow b p hb).1⟩, ow⟩
  by_cases e : i = k
  · subst e
    rw [List.getElem?_set_self'] at hz
    cases q : ρ[i]? with
    | none => rw [q] at hz; cases hz
    | some x =>
      rw [q] at hz
      cases (Option.some.inj hz)
      refine ⟨v, getD_of ?_, r⟩
      have : i < σ.length := by rw [s.len]; exact (List.getElem?_eq_some_iff.mp q).1
      rw [List.getElem?_set_self this]
  · rw [List.getElem?_set_ne e] at hz
    have := s.slot k z hz
    rw [List.getD_eq_getElem?_getD, List.getElem?_set_ne e, ← List.getD_eq_getElem?_getD]
    exact this
/-- slot i holds a new object of its own -/
theorem St.storeO {i : Nat} {p : Addr} {d : DY.D} (s : St K A σ G H ρ) (n : G p = none) (h : Has K A G H p d) (no : ¬ OwnS σ ρ p) : St K A (σ.set i (some (.ref p))) G H (ρ.set i (.ow d)) ∧ ∀ k q, Own (σ.set i (some (.ref p))) (ρ.set i (.ow d)) k q → (Own σ ρ k q ∧ k ≠ i) ∨ (k = i ∧ q = p) := by
  have ow : ∀ k q, Own (σ.set i (some (.ref p))) (ρ.set i (.ow d)) k q → (Own σ ρ k q ∧ k ≠ i) ∨ (k = i ∧ q = p) := fun k q z => by
    rcases own_setσ z with z | ⟨e, e2, d', z⟩
    · exact .inl ⟨z.2, z.1⟩
    · cases e2; exact .inr ⟨e, rfl⟩
  refine ⟨⟨s.sub, by rw [List.length_set, List.length_set]; exact s.len, fun k z hz => ?_, fun a b q ha hb => ?_⟩, ow⟩
  · by_cases e : i = k
    · subst e
      rw [List.getElem?_set_self'] at hz
      cases q : ρ[i]? with
      | none => rw [q] at hz; cases hz
      | some x =>
        rw [q] at hz
        cases (Option.some.inj hz)
        refine ⟨p, getD_of ?_, n, h⟩
        have : i < σ.length := by rw [s.len]; exact (List.getElem?_eq_some_iff.mp q).1
        rw [List.getElem?_set_self this]
    · rw [List.getElem?_set_ne e] at hz
      have := s.slot k z hz
      rw [List.getD_eq_getElem?_getD, List.getElem?_set_ne e, ← List.getD_eq_getElem?_getD]
      exact this
  · rcases ow a q ha with ⟨x, xe⟩ | ⟨x, x'⟩
    · rcases ow b q hb with ⟨y, ye⟩ | ⟨y, y'⟩
      · exact s.dist a b q x y
      · exact absurd ⟨a, y' ▸ x⟩ no
    · rcases ow b q hb with ⟨y, ye⟩ | ⟨y, y'⟩
      · exact absurd ⟨b, x' ▸ y⟩ no
      · rw [x, y]
theorem StF.store {i : Nat} {v : V} {d : DY.D} (s : StF K A j B σ G H ρ) (r : Rep K A G v d) : StF K A j B (σ.set i (some v)) G H (ρ.set i (.sh d)) :=
  ⟨(s.st.store r).1, s.ext, fun k p z => s.own k p ((s.st.store r).2 k p z).1⟩
/-- the value of an evaluation is stored, w: as an own object if it is new -/
theorem StF.keep {w : Bool} {i : Nat} {v : V} {r : Rv} (s : StF K A j B σ G H ρ) (n : Nx K A σ G H ρ G' H' ρ') (h : RepR K A (OwnS σ ρ') H G' H' v r) (hw : w = true → j ≠ some i) : ∃ G2, L2.Same G' G2 ∧ StF K A j B (σ.set i (some v)) G2 H' (ρ'.set i (DY.keep w r)) := by
  obtain ⟨d, b⟩ := r
  have s' := s.step n
  cases b with
  | false => exact ⟨G', fun _ _ z => z, by
      have : DY.keep w (d, false) = .sh d := rfl
      rw [this]; exact s'.store h⟩
  | true =>
    cases w with
    | false =>
      obtain ⟨G2, n2, r2, g⟩ := n.frz h
      exact ⟨G2, g, (s.step n2).store r2⟩
    | true =>
      obtain ⟨p, rfl, h1, h2, h3, h4⟩ := h
      refine ⟨G', fun _ _ z => z, (s'.st.storeO h1 h2 h3).1, s'.ext, fun k q z => ?_⟩
      rcases (s'.st.storeO h1 h2 h3).2 k q z with ⟨z, _⟩ | ⟨rfl, rfl⟩
      · exact s'.own k q z
      · exact ⟨fun e => absurd e (hw rfl), fun _ => s.fresh h4⟩
end
section
variable {K : PySem.W.Frag} {A : CT} {j : Option Nat} {B : Bs} {G G' G1 G2 H H' H1 H2 : Hp} {σ σ' : L2.St} {ρ ρ1 ρ2 ρ' : Env} {D : Ends}
theorem RepR.base {v : V} {r : Rv} {O : Addr → Prop} (s : StF K A j B σ G H ρ) (h : RepR K A O H G' H' v r) : RepR K A O B.H G' H' v r := by
  unfold RepR at *
  split at h
  · rename_i q
    rw [if_pos q]
    obtain ⟨p, e, h1, h2, h3, h4⟩ := h
    exact ⟨p, e, h1, h2, h3, s.fresh h4⟩
  · rename_i q
    rw [if_neg q]; exact h
/-- a new thing that waits while something else is evaluated -/
theorem RepR.nx {v : V} {r : Rv} {H0 : Hp} (h : RepR K A (OwnS σ ρ1) H0 G1 H1 v r) (n : Nx K A σ G1 H1 ρ1 G2 H2 ρ2) : RepR K A (OwnS σ ρ2) H0 G2 H2 v r := by
  unfold RepR at *
  split at h
  · rename_i q
    rw [if_pos q]
    obtain ⟨p, e, h1, h2, h3, h4⟩ := h
    refine ⟨p, e, ?_, h2.mono n.gs fun o z nt => n.ext.hs p o z h3 nt, fun ⟨i, z⟩ => h3 ⟨i, n.own i p z⟩, h4⟩
    cases z : G2 p with
    | none => rfl
    | some u =>
      rcases n.ext.fr p (by rw [z]; exact fun x => nomatch x) with z | z | z
      · exact absurd h1 z
      · obtain ⟨o, ho⟩ := h2.ex; rw [ho] at z; cases z
      · exact absurd z h3
  · rename_i q
    rw [if_neg q]; exact h.mono n.gs
theorem StF.keep0 {w : Bool} {i : Nat} {v : V} {r : Rv} (s : StF K A j B σ G H ρ) (h : RepR K A (OwnS σ ρ) B.H G H v r) (hw : w = true → j ≠ some i) : ∃ G2, StF K A j B (σ.set i (some v)) G2 H (ρ.set i (DY.keep w r)) ∧ L2.Same G G2 ∧ (∀ p, (r.2 = true → v ≠ .ref p) → G p = none → G2 p = none) ∧ ∀ k p, Own (σ.set i (some v)) (ρ.set i (DY.keep w r)) k p → Own σ ρ k p ∨ (r.2 = true ∧ v = .ref p) := by
  obtain ⟨d, b⟩ := r
  cases b with
  | false => exact ⟨G, s.store h, fun _ _ z => z, fun _ _ z => z, fun k p z => .inl ((s.st.store h).2 k p z).1⟩
  | true =>
    obtain ⟨p, rfl, h1, h2, h3, h4⟩ := h
    cases w with
    | false =>
      obtain ⟨o, ho, s1, r1, g⟩ := s.st.freeze h1 h2 h3
      have s2 : StF K A j B σ (upd G p o) H ρ := ⟨s1, ⟨fun q u z => g q u (s.ext.gs q u z), fun q hq => by
        by_cases z : q = p
        · subst z; exact .inr (.inl h4)
        · rw [upd_ne z] at hq; exact s.ext.fr q hq, s.ext.hs, s.ext.there⟩, s.own⟩
      exact ⟨_, s2.store r1, g, fun q hq z => by rw [upd_ne fun e => hq rfl (by rw [e])]; exact z, fun k q z => .inl ((s2.st.store r1).2 k q z).1⟩
    | true =>
      have so := s.st.storeO (i := i) h1 h2 h3
      refine ⟨G, ⟨so.1, s.ext, fun k q z => ?_⟩, fun _ _ z => z, fun _ _ z => z, fun k q z => ?_⟩
      · rcases so.2 k q z with ⟨z, _⟩ | ⟨rfl, rfl⟩
        · exact s.own k q z
        · exact ⟨fun e => absurd e (hw rfl), fun _ => h4⟩
      · rcases so.2 k q z with ⟨z, _⟩ | ⟨rfl, rfl⟩
        · exact .inl z
        · exact .inr ⟨rfl, rfl⟩
theorem StF.keep2 {w : Bool} {i k : Nat} {v v2 : V} {r q : Rv} (s : StF K A j B σ G H ρ) (h : RepR K A (OwnS σ ρ) B.H G H v r) (h' : RepR K A (OwnS σ ρ) B.H G H v2 q) (hd : r.2 = true → q.2 = true → v ≠ v2) (hik : i ≠ k) (hw : w = true → j ≠ some i ∧ j ≠ some k) :
    ∃ G2, StF K A j B ((σ.set i (some v)).set k (some v2)) G2 H ((ρ.set i (DY.keep w r)).set k (DY.keep w q)) := by
  obtain ⟨G1, s1, g1, f1, o1⟩ := s.keep0 (w := w) (i := i) h fun z => (hw z).1
  have h2 : RepR K A (OwnS (σ.set i (some v)) (ρ.set i (DY.keep w r))) B.H G1 H v2 q := by
    unfold RepR at h'
    split at h'
    · rename_i qf
      obtain ⟨p2, rfl, a1, a2, a3, a4⟩ := h'
      have ne : r.2 = true → v ≠ .ref p2 := fun rf => hd rf qf
      unfold RepR
      rw [if_pos qf]
      refine ⟨p2, rfl, f1 p2 ne a1, a2.mono g1 fun _ z _ => z, fun ⟨k', z⟩ => ?_, a4⟩
      rcases o1 k' p2 z with z | z
      · exact a3 ⟨k', z⟩
      · exact ne z.1 z.2
    · rename_i qf
      unfold RepR
      rw [if_neg qf]; exact h'.mono g1
  obtain ⟨G2, s2, _⟩ := s1.keep0 (w := w) (i := k) h2 fun z => (hw z).2
  exact ⟨G2, s2⟩
end
section
variable {X : Cx} {A : CT} {j : Option Nat} {e a b : Expr} {me ma mb : Ev} {pos pos' : Pos}
theorem set_use {K : PySem.W.Frag} {w : Bool} {i : Nat} {D : Ends} {σ : L2.St} {H : Hp} (hw : w = true → j ≠ some i) (h : liftS K A j (sAsg w i me) D σ H) : tAsg (liftE K A me) (gName i) D σ H := by
  obtain ⟨B, G, ρ, o, ρ', s, e, k⟩ := h
  obtain ⟨⟨r, ρ1⟩, e1, e⟩ := bind_ok e
  cases e
  refine ⟨G, ρ, r, ρ1, s.st, e1, fun v G1 H1 n h => ?_⟩
  obtain ⟨G2, _, s2⟩ := s.keep (w := w) (i := i) n h hw
  exact k _ G2 H1 s2
theorem pds_set {w : Bool} {i : Nat} {x : Str} (hN : X.N.Nodup) (hi : X.N[i]? = some x) (hx : Loc X.env.scope x) (he : PD A X e me) (hw : w = true → j ≠ some i) (hs : swapsWith e (some (.Name x pos')) pos.line X.env = pure false := by rfl) (hf : X.fn x = true ∨ X.env.scope.names.lookup x = some .local := by first | exact .inl rfl | exact .inr rfl | assumption) :
    PDS A j X (.Assign [.Name x pos'] e pos) (sAsg w i me) := PS.imp (ps_set hN hi hx he hs hf) fun D σ H => set_use hw
theorem pds_par {w : Bool} {i k : Nat} {x y : Str} {px py pt : Pos} {kt k2 pt2} (hc : X.calm = true) (hN : X.N.Nodup) (hi : X.N[i]? = some x) (hk : X.N[k]? = some y) (hik : i ≠ k)
    (hx : X.env.scope.names.lookup x = some .local) (hy : X.env.scope.names.lookup y = some .local) (ha : PD A X a ma) (hb : PD A X b mb) (hw : w = true → j ≠ some i ∧ j ≠ some k)
    (hsw : swappedStores [.Tuple [.Name x px, .Name y py] kt pt] (.Tuple [a, b] k2 pt2) X.env = pure (some [x, y]))
    (hs : swapsWithSole [.Tuple [.Name x px, .Name y py] kt pt] (.Tuple [a, b] k2 pt2) pos.line X.env = pure false := by rfl)
    (h1 : starEach [a, b] X.env = (false, eval a X.env) :: starEach [b] X.env := by rfl) (h2 : starEach [b] X.env = (false, eval b X.env) :: starEach [] X.env := by rfl) :
    PDS A j X (.Assign [.Tuple [.Name x px, .Name y py] kt pt] (.Tuple [a, b] k2 pt2) pos) (sPar w i k ma mb) := PS.imp (ps_par hc hN hi hk hik hx hy (pa_cons ha (pa_cons hb pa_nil h2) h1) hsw hs) fun D σ H h => by
  obtain ⟨B, G, ρ, o, ρ', s, e, kk⟩ := h
  obtain ⟨⟨r, ρ1⟩, e1, e⟩ := bind_ok e
  obtain ⟨⟨q, ρ2⟩, e2, e⟩ := bind_ok e
  cases e
  refine ⟨G, ρ, r, ρ1, s.st, e1, fun v G1 H1 n h => ?_⟩
  have s1 := s.step n
  refine ⟨G1, ρ1, q, ρ2, n.st, e2, fun v2 G2 H2 n2 hh => ⟨v, v2, rfl, ?_⟩⟩
  have s2 := s1.step n2
  have r1 : RepR X.K A (OwnS σ ρ2) B.H G2 H2 v r := (RepR.base s h).nx n2
  have r2 : RepR X.K A (OwnS σ ρ2) B.H G2 H2 v2 q := RepR.base s1 hh
  obtain ⟨G3, s3⟩ := s2.keep2 (w := w) (i := i) (k := k) r1 r2 (fun h1 h2 => by
    unfold RepR at h hh
    rw [if_pos h1] at h
    rw [if_pos h2] at hh
    obtain ⟨p, e1, _, x, _, _⟩ := h
    obtain ⟨p2, e3, _, _, _, y⟩ := hh
    intro z
    rw [e1, e3] at z
    cases z
    obtain ⟨o, x⟩ := x.ex
    rw [y] at x; cases x) hik hw
  exact kk _ G3 H2 s3
end
end DY

set_option Elab.async false
set_option linter.all false
set_option maxRecDepth 100000
set_option maxHeartbeats 4000000
namespace DY
open PySem L2 PySem.Spec PyProof.Rows
variable [Tb]
section
variable {K : PySem.W.Frag} {A : CT} {j : Option Nat} {B : Bs} {G G' G1 G2 H H' H1 H2 : Hp} {σ σ' : L2.St} {ρ ρ1 ρ2 ρ' : Env} {Q : VK}
/-- slot i's own object is written -/
theorem St.write {i : Nat} {d d' : D} {p : Addr} {o : HO} (s : St K A σ G H ρ) (h : ρ[i]? = some (.ow d)) (hp : σ[i]? = some (some (.ref p))) (new : Has K A G (upd H p o) p d') : Nx K A σ G H ρ G (upd H p o) (ρ.set i (.ow d')) := by
  have hO : Own σ ρ i p := ⟨⟨d, h⟩, hp⟩
  obtain ⟨gn, _, _, _⟩ := hO.has s
  have ow : ∀ k q, Own σ (ρ.set i (.ow d')) k q → Own σ ρ k q := fun k q ⟨⟨d2, h1⟩, h2⟩ => by
    by_cases e : i = k
    · subst e; exact ⟨⟨d, h⟩, h2⟩
    · rw [List.getElem?_set_ne e] at h1; exact ⟨⟨d2, h1⟩, h2⟩
  have other : ∀ q, q ≠ p → ∀ u, H q = some u → upd H p o q = some u := fun q n u z => by rw [upd_ne n]; exact z
  refine ⟨⟨fun _ _ z => z, fun _ z => .inl z, fun q u z n _ => other q (fun e => n (e ▸ ⟨i, hO⟩)) u z, fun q z => ?_⟩, ⟨⟨fun q u z => ?_, ?_, s.sub.nt, s.sub.bs⟩, by rw [List.length_set]; exact s.len, fun k z hz => ?_, fun a b q ha hb => s.dist a b q (ow a q ha) (ow b q hb)⟩, ow⟩
  · by_cases e : q = p
    · subst e; rw [upd_same]; exact fun x => nomatch x
    · rw [upd_ne e]; exact z
  · have ne : q ≠ p := fun e => by subst e; rw [gn] at z; cases z
    rw [upd_ne ne]
    exact s.sub q u z
  · obtain ⟨_, _, _, hh⟩ := hO.has s
    obtain ⟨o0, e0, n0⟩ := hh.nt
    exact nT.up e0 n0 s.sub.tb
  · by_cases e : i = k
    · subst e
      rw [List.getElem?_set_self (List.getElem?_eq_some_iff.mp h).1] at hz
      cases (Option.some.inj hz)
      exact ⟨p, getD_of hp, gn, new⟩
    · rw [List.getElem?_set_ne e] at hz
      have q := s.slot k z hz
      cases z with
      | un => trivial
      | sh d2 => exact q
      | ow d2 =>
        obtain ⟨p2, e1, n1, h1⟩ := q
        have ne : p2 ≠ p := fun z => e (s.dist i k p hO ⟨⟨d2, hz⟩, z ▸ getD_some e1⟩)
        exact ⟨p2, e1, n1, h1.mono (fun _ _ z => z) fun u z _ => other p2 ne u z⟩
theorem St.at_ {i : Nat} {d : D} (s : St K A σ G H ρ) (h : ρ[i]? = some (.ow d)) : ∃ p, σ[i]? = some (some (.ref p)) ∧ G p = none ∧ Has K A G H p d := by
  obtain ⟨p, e, n, z⟩ := s.slot i _ h
  exact ⟨p, getD_some e, n, z⟩
/-! ### xs.append(e), xs.pop(..) -/
theorem mut_use {f : D → List D → R (D × D)} {i : Nat} {ms : List Ev} {r : V → List V → Hp → VK → Prop} (hl : ∀ d xs q, f d xs = .ok q → ∃ ds, d = .lst ds)
    (hr : ∀ {p : Addr} {vs ws : List V} {ds xs : List D} {d' y : D} {G H : Hp} {Q : VK}, Sub G H → H p = some (.lst vs) → Reps K A G vs ds → Reps K A G ws xs → f (.lst ds) xs = .ok (y, d') → (∀ v o, Rep K A G v y → Has K A G (upd H p o) p d' → Q v (upd H p o)) → r (.ref p) ws H Q)
    (h : liftE K A (eMut f i ms) σ H Q) : tBM K "list" r (tVar i) (liftA K A ms) σ H Q := by
  obtain ⟨G, ρ, r', ρ', s, e, k⟩ := h
  obtain ⟨d0, e0, ea⟩ := bind_ok e
  obtain ⟨_, el, eb⟩ := bind_ok ea
  obtain ⟨⟨xs, ρ1⟩, e1, ec⟩ := bind_ok eb
  obtain ⟨ds0, hd0⟩ : ∃ ds, d0 = .lst ds := by cases d0 <;> first | exact ⟨_, rfl⟩ | cases el
  rw [hd0] at e0
  clear ea eb el e
  have e := ec
  clear ec
  obtain ⟨v, hv, rb⟩ := look_at s e0
  dsimp only at e
  split at e
  · rename_i d hd
    obtain ⟨⟨y, d'⟩, e2, e⟩ := bind_ok e
    cases e
    obtain ⟨p0, vs0, rfl, h0, _⟩ := rb.lst s.sub
    refine ⟨_, hv, .inl ⟨rfl, vs0, SqL.of h0⟩, G, ρ, xs, ρ1, s, e1, fun ws G1 H1 n rs => ?_⟩
    obtain ⟨p, hp, gn, hh⟩ := n.st.at_ hd
    rw [hv] at hp
    cases hp
    obtain ⟨ds, rfl⟩ := hl _ _ _ e2
    obtain ⟨vs, h1, h2⟩ := hh
    exact hr n.st.sub h1 h2 rs e2 fun w o rw' new => k w G1 _ (n.trans (n.st.write hd hv new)) (RepR.of rw')
  · cases e
theorem app_l (d : D) (xs : List D) (q : D × D) (e : appendM d xs = .ok q) : ∃ ds, d = .lst ds := by
  unfold appendM at e
  split at e
  · exact ⟨_, rfl⟩
  · cases e
theorem app_r {p : Addr} {vs ws : List V} {ds xs : List D} {d' y : D} (sb : Sub G H) (hp : H p = some (.lst vs)) (r : Reps K A G vs ds) (rs : Reps K A G ws xs) (e : appendM (.lst ds) xs = .ok (y, d')) (k : ∀ v o, Rep K A G v y → Has K A G (upd H p o) p d' → Q v (upd H p o)) : rAppend (.ref p) ws H Q := by
  unfold appendM at e
  split at e
  · rename_i h; cases h
    obtain ⟨w, rfl, rw'⟩ := rs.inv1
    split at e
    · rename_i q
      cases e
      exact ⟨p, vs, w, rfl, rfl, hp, small1000 (by rw [r.len]; exact Nat.le_of_lt q), k _ _ .non ⟨_, upd_same, r.append (.cons rw' .nil)⟩⟩
    · cases e
  · cases e
end
end DY

set_option Elab.async false
set_option linter.all false
set_option maxRecDepth 100000
set_option maxHeartbeats 4000000
namespace DY
open PySem L2 PySem.Spec PyProof.Rows
variable [Tb]
section
variable {X : Cx} {A : CT} {x : Str} {pos pos' p apos cpos : Pos} {i : Nat} {a b e : Expr} {ma mb me : Ev} {j : Option Nat}
theorem pd_append (h : PE X (.Name x pos') (tVar i)) (ha : PDA A X [e] [me])
    (hx : ∀ {r : V → List V → Hp → VK → Prop}, MtM X "list.append" r → PE X (.Call (.Attribute (.Name x pos') "append" apos) [e] [] pos) (tBM X.K "list" r (tVar i) (liftA X.K A [me]))) :
    PD A X (.Call (.Attribute (.Name x pos') "append" apos) [e] [] pos) (eMut appendM i [me]) := PE.imp (hx mt_append) fun σ H Q q => mut_use (r := rAppend) app_l app_r q
/-! ### slot[e] = v -/
def rPutD (o i v : V) (H : Hp) (Q : Hp → Prop) : Prop := rSetL o i v H Q ∨ ∃ a H4, o = .ref a ∧ DPut H a i v H4 ∧ Q H4
theorem set_any (hu : X.A.units + 1 < cLine) : PSet X rPutD := by
  intro pins s σ H o i v ov iv u Q I ro ri rv q
  rcases q with q | ⟨a, H4, rfl, g, q⟩
  · exact set_list pins s σ H o i v ov iv u Q I ro ri rv q
  · obtain rfl : ov = Value.ref a := ro
    exact d_setItem hu I g ri rv fun s' I' => ⟨H4, I', q⟩
theorem put_use {K : PySem.W.Frag} {D : Ends} {σ : L2.St} {H : Hp} (h : liftS K A j (sPut putM i me mb) D σ H) : tAsg (liftE K A mb) (gSub (tVar i) (liftE K A me) rPutD) D σ H := by
  obtain ⟨B, G, ρ, o, ρ', s, e, k⟩ := h
  obtain ⟨⟨y, ρ1⟩, e1, e⟩ := bind_ok e
  obtain ⟨d0, e0, e⟩ := bind_ok e
  obtain ⟨⟨xk, ρ2⟩, e2, e⟩ := bind_ok e
  dsimp only at e
  split at e
  · rename_i d hd
    obtain ⟨d', e3, e⟩ := bind_ok e
    cases e
    refine use_val s.st e1 fun v G1 H1 n1 r1 => ?_
    obtain ⟨w, hw, _⟩ := look_at n1.st e0
    refine ⟨w, hw, use_val n1.st e2 fun kx G2 H2 n2 r2 => ?_⟩
    obtain ⟨p, hp, gn, hh⟩ := n2.st.at_ hd
    rw [hw] at hp
    cases hp
    have fin : ∀ o, Has K A G2 (upd H2 p o) p d' → D.nx σ (upd H2 p o) := fun o new => k σ G2 _ (s.step ((n1.trans n2).trans (n2.st.write hd hw new)))
    have r1' := r1.mono n2.gs
    unfold putM at e3
    split at e3
    · cases r2
      obtain ⟨vs, h1, h2⟩ := hh
      split at e3
      · rename_i jx hj
        cases e3
        exact .inl ⟨p, vs, _, jx, rfl, rfl, h1, by rw [h2.len]; exact hj, fin _ ⟨_, upd_same, h2.set r1' jx⟩⟩
      · cases e3
    · cases r2
      rename_i kvs ii
      obtain ⟨kv, h1, h2⟩ := hh
      split at e3
      · rename_i q
        cases e3
        exact .inr ⟨p, _, rfl, DPut.k (k := .inl ii) h1 (small1000 (by rw [h2.len]; exact Nat.le_of_lt q)), fin _ ⟨_, upd_same, h2.put (.inl ii) r1'⟩⟩
      · cases e3
    · cases r2
      rename_i kvs ll
      obtain ⟨kv, h1, h2⟩ := hh
      split at e3
      · rename_i q
        cases e3
        exact .inr ⟨p, _, rfl, DPut.k (k := .inr (S ll)) h1 (small1000 (by rw [h2.len]; exact Nat.le_of_lt q)), fin _ ⟨_, upd_same, h2.put (.inr ll) r1'⟩⟩
      · cases e3
    · obtain ⟨kk, e4, e3⟩ := bind_ok e3
      obtain ⟨bb, rfl, hb⟩ := key_tup r2 e4 n2.st.sub
      obtain ⟨kv, h1, h2⟩ := hh
      split at e3
      · rename_i q
        cases e3
        exact .inr ⟨p, _, rfl, DPut.t h1 hb (small1000 (by rw [h2.len]; exact Nat.le_of_lt q)), fin _ ⟨_, upd_same, h2.put kk r1'⟩⟩
      · cases e3
    · cases e3
  · cases e
theorem pds_put (hu : X.A.units + 1 < cLine) (h : PE X (.Name x p) (tVar i)) (he : PD A X e me) (hb : PD A X b mb)
    (ha : ∀ v, assign (.Subscript (.Name x p) e pos') X.env v = (do
      let ov ← holding [v] (eval (.Name x p) X.env)
      let iv ← holding [v, ov] (eval e X.env)
      standAt pos'
      holding [v, ov, iv] (setItem ov iv v)
      release [v, ov, iv] []) := by intro _; rfl)
    (hs : swapsWithSole [.Subscript (.Name x p) e pos'] b pos.line X.env = pure false := by rfl) (hw : swappedStores [.Subscript (.Name x p) e pos'] b X.env = pure none := by rfl)
    (h1 : (assignEach [.Subscript (.Name x p) e pos'] X.env).map (·.2) = [assign (.Subscript (.Name x p) e pos') X.env] := by rfl) :
    PDS A j X (.Assign [.Subscript (.Name x p) e pos'] b pos) (sPut putM i me mb) := PS.imp (ps_asg hb (pg_sub h he (set_any hu) ha) hs hw h1) fun D σ H => put_use
/-! ### attributes -/
theorem lookup_zip : ∀ {nms : List Str} {vs : List V} {k : Nat} {f : Str} {v : V}, nms.Nodup → nms[k]? = some f → vs[k]? = some v → (nms.zip vs).lookup f = some v
  | [], _, _, _, _, _, h, _ => by simp at h
  | _ :: _, [], _, _, _, _, _, h => by simp at h
  | n :: nms, w :: vs, 0, f, v, _, h1, h2 => by
    simp at h1 h2
    subst h1; subst h2
    show List.lookup n ((n, w) :: nms.zip vs) = _
    rw [List.lookup_cons]; simp
  | n :: nms, w :: vs, k + 1, f, v, nd, h1, h2 => by
    have nd' := List.nodup_cons.mp nd
    have h1' : nms[k]? = some f := by simpa using h1
    have ne : (f == n) = false := beq_eq_false_iff_ne.mpr fun z => nd'.1 (z ▸ List.mem_of_getElem? h1')
    show List.lookup f ((n, w) :: nms.zip vs) = _
    rw [List.lookup_cons, ne]
    exact lookup_zip nd'.2 h1' (by simpa using h2)
/-- what the written part shows of an attribute: the k-th of class c -/
structure FldOk (K : PySem.W.Frag) (A : CT) (c k : Nat) (f : Str) : Prop where
  na : NoAttr K (A.ad c) f
  at_ : (A.nms c)[k]? = some f
  nd : (A.nms c).Nodup
theorem pd_fld {c k : Nat} {f : Str} (kd : KD X.K A) (F : FldOk X.K A c k f) (ha : PD A X a ma) (hb : attributeBase a f X.env (eval a X.env) = eval a X.env := by rfl) : PD A X (.Attribute a f pos) (eUn (fldD c k) ma) := PE.imp (pe_fld ha hb) fun σ H Q q => by
  obtain ⟨G, ρ, r, ρ', s, e, kk⟩ := q
  obtain ⟨⟨d1, ρ1⟩, e1, e⟩ := bind_ok e
  obtain ⟨r', e3, e⟩ := bind_ok e
  cases e
  refine use_val s e1 fun v G1 H1 n r1 => ?_
  unfold fldD at e3
  split at e3
  · split at e3
    · rename_i hc
      subst hc
      obtain ⟨d, fl⟩ := r
      obtain ⟨h1, rfl⟩ := opt_ok e3
      cases r1 with
      | ins h l c rs =>
        obtain ⟨w, h2, h3⟩ := rs.get' h1
        exact ⟨_, _, _, _, w, rfl, n.st.sub.ins h, (kd.cf _ c).cl, F.na, lookup_zip F.nd F.at_ h2, kk w G1 H1 n (RepR.of h3)⟩
    · cases e3
  · cases e3
theorem putF_zip : ∀ {nms : List Str} {vs : List V} {f : Str} {y : V}, nms.Nodup → nms[vs.length]? = some f → putF f y (nms.zip vs) = nms.zip (vs ++ [y])
  | [], _, _, _, _, h => by simp at h
  | n :: nms, [], f, y, _, h => by
    simp at h
    subst h
    cases nms <;> rfl
  | n :: nms, w :: vs, f, y, nd, h => by
    have nd' := List.nodup_cons.mp nd
    have h' : nms[vs.length]? = some f := by simpa using h
    have ne : ¬ n = f := fun z => nd'.1 (z ▸ List.mem_of_getElem? h')
    show (if n = f then (n, y) :: nms.zip vs else (n, w) :: putF f y (nms.zip vs)) = (n, w) :: nms.zip (vs ++ [y])
    rw [if_neg ne, putF_zip nd'.2 h']
theorem pds_fld {c k : Nat} {f : Str} (kd : KD X.K A) (F : FldOk X.K A c k f) (hz : (A.nms c).length ≤ 900) (h : PE X (.Name x p) (tVar 0)) (hb : PD A X b mb) (hs : swapsWith b (some (.Attribute (.Name x p) f pos')) pos.line X.env = pure false := by rfl) :
    PDS A j X (.Assign [.Attribute (.Name x p) f pos'] b pos) (sFld c k mb) := PS.imp (ps_fld h hb hs) fun D σ H q => by
  obtain ⟨B, G, ρ, o, ρ', s, e, kk⟩ := q
  obtain ⟨⟨y, ρ1⟩, e1, e⟩ := bind_ok e
  dsimp only at e
  split at e
  · rename_i c' fs hd
    split at e
    · rename_i hk0
      cases e
      obtain ⟨rfl, hk⟩ := hk0
      refine use_val s.st e1 fun v G1 H1 n r1 => ?_
      obtain ⟨q, hp, gn, dx, vs, h1, h2, h3, h4⟩ := n.st.at_ hd
      have hl : vs.length = k := by rw [h4.len]; exact hk.symm
      have e5 : putF f v ((A.nms c').zip vs) = (A.nms c').zip (vs ++ [v]) := putF_zip F.nd (by rw [hl]; exact F.at_)
      refine ⟨.ref q, hp, q, _, dx, _, rfl, h1, (kd.cf _ h3).cl, F.na, by rw [List.length_zip]; omega, ?_⟩
      rw [e5]
      refine kk σ G1 _ (s.step (n.trans (n.st.write hd hp ⟨dx, _, upd_same, ?_, h3, h4.append (.cons r1 .nil)⟩)))
      have := (List.getElem?_eq_some_iff.mp F.at_).1
      rw [List.length_append, hl]; exact this
    · cases e
  · cases e
end
end DY

set_option Elab.async false
set_option linter.all false
set_option maxRecDepth 100000
set_option maxHeartbeats 4000000
namespace DY
open PySem L2 PySem.Spec PyProof.Rows
variable [Tb]
/-! ### d.get(k, z), sep.join(l) -/
section
variable {K : PySem.W.Frag} {A : CT} {G G' G1 G2 H H' H1 H2 : Hp} {σ σ' : L2.St} {ρ ρ1 ρ2 ρ' : Env} {Q : VK} {ma mk mz : Ev} {i : Nat}
end
section
variable {X : Cx} {A : CT} {x : Str} {pos pos' apos cpos : Pos} {i : Nat} {a e f : Expr} {ma me mf : Ev}
def joinB (x y : D) : R Rv := joinD x [y]
end
/-! ### defs -/
section
variable (K : PySem.W.Frag) (A : CT)
/-- the promise of a def by its mirror -/
def spF (F : Fn) (n : Nat) : Sp := fun vs H Q _ => vs.length = n ∧ rDn K A F vs H Q
def spR (F : FnR) (n j : Nat) : Sp := fun vs H Q _ => vs.length = n ∧ j < n ∧ ∃ G ds d p r d', Sub G H ∧ vs[j]? = some (.ref p) ∧ Reps K A G (vs.eraseIdx j) ds ∧ G p = none ∧ Has K A G H p d ∧ F ds d = .ok (r, d') ∧
  ∀ v G' H', Ext (fun q => q = p) G H G' H' → Sub G' H' → G' p = none → Has K A G' H' p d' → RepN K A H G' H' v r → Q v H'
end
section
variable {K : PySem.W.Frag} {A : CT} {G H : Hp} {Q : VK}
theorem reps_un {G : Hp} : ∀ {vs : List V} {ds : List D}, Reps K A G vs ds → ∀ (i : Nat) (s : Slot), (ds.map Slot.sh)[i]? = some s → ∃ d v, s = Slot.sh d ∧ vs[i]? = some v ∧ Rep K A G v d := fun {vs ds} h i s e => by
  rw [List.getElem?_map] at e
  obtain ⟨d, h1, rfl⟩ := Option.map_eq_some_iff.mp e
  obtain ⟨v, h2, h3⟩ := h.get' h1
  exact ⟨d, v, rfl, h2, h3⟩
/-- the slots at a def's entry -/
theorem start_st {N : List Str} {vs : List V} {ds : List D} {n : Nat} (hn : N.length = n) (s : Sub G H) (r : Reps K A G vs ds) (hl : ds.length ≤ n) : St K A (L2.start N vs) G H (slots n ds) := by
  have lv : vs.length = ds.length := r.len
  have hslot : ∀ (i : Nat) (s : Slot), (slots n ds)[i]? = some s → (∃ d v, s = Slot.sh d ∧ (L2.start N vs)[i]? = some (some v) ∧ Rep K A G v d) ∨ s = Slot.un := fun i s e => by
    unfold slots at e
    by_cases hi : i < ds.length
    · rw [List.getElem?_append_left (by simpa using hi)] at e
      obtain ⟨d, v, rfl, h1, h2⟩ := reps_un r i s e
      refine .inl ⟨d, v, rfl, ?_, h2⟩
      unfold L2.start
      rw [List.getElem?_append_left (by rw [List.length_map, lv]; exact hi), List.getElem?_map, h1]; rfl
    · rw [List.getElem?_append_right (by simpa using hi)] at e
      exact .inr (List.eq_of_mem_replicate (List.mem_of_getElem? e))
  have noOwn : ∀ i p, ¬ Own (L2.start N vs) (slots n ds) i p := fun i p ⟨⟨d, h1⟩, _⟩ => by
    rcases hslot i _ h1 with ⟨_, _, e, _⟩ | e <;> cases e
  refine ⟨s, ?_, fun i s e => ?_, fun i j p h _ => absurd h (noOwn i p)⟩
  · unfold L2.start slots
    rw [List.length_append, List.length_append, List.length_map, List.length_map, List.length_replicate, List.length_replicate, lv, hn]
  · rcases hslot i s e with ⟨d, v, rfl, h1, h2⟩ | rfl
    · exact ⟨v, getD_of h1, h2⟩
    · trivial
theorem noOwn_start {N : List Str} {vs : List V} {ds : List D} {n : Nat} : ∀ i p, ¬ Own (L2.start N vs) (slots n ds) i p := fun i p ⟨⟨d, h1⟩, _⟩ => by
  unfold slots at h1
  by_cases hi : i < ds.length
  · rw [List.getElem?_append_left (by simpa using hi), List.getElem?_map] at h1
    obtain ⟨_, _, e⟩ := Option.map_eq_some_iff.mp h1
    cases e
  · rw [List.getElem?_append_right (by simpa using hi)] at h1
    have := List.eq_of_mem_replicate (List.mem_of_getElem? h1)
    cases this
/-- a def's promise from its body's mirror -/
theorem enter_F {N : List Str} {n p : Nat} {body : Sv} {vs : List V} {E : XK} (hn : N.length = n) (hp : p ≤ n) (h : spF K A (mkFn n p body) p vs H Q E) : liftS K A none body { nx := fun _ H' => Q .non H', rt := Q } (L2.start N vs) H := by
  obtain ⟨_, G, ds, r, s, rs, e, k⟩ := h
  unfold mkFn at e
  split at e
  · rename_i hl
    obtain ⟨⟨o, ρ'⟩, e1, e⟩ := bind_ok e
    have s0 := start_st (N := N) hn s rs (by omega)
    refine ⟨⟨G, H, none⟩, G, slots n ds, o, ρ', ⟨s0, Ext.refl _ _ _, fun i p z => absurd z (noOwn_start i p)⟩, e1, ?_⟩
    have x0 : ∀ {σ' G' H'}, StF K A none ⟨G, H, none⟩ σ' G' H' ρ' → Nx0 G H G' H' := fun {σ' G' H'} z => ⟨z.ext.weak (fun p w => nomatch w), z.st.sub⟩
    cases o with
    | nx =>
      cases e
      exact fun σ' G' H' z => k .non G' H' (x0 z) (RepR.of .non)
    | bk => cases e
    | ct => cases e
    | rt r' =>
      cases e
      intro v σ' G' H' z hr
      refine k v G' H' (x0 z) ?_
      unfold RepN RepR at *
      split at hr
      · rename_i q
        rw [if_pos q]
        obtain ⟨p, e, h1, h2, _, h4⟩ := hr
        exact ⟨p, e, h1, h2, id, h4⟩
      · rename_i q
        rw [if_neg q]; exact hr
  · cases e
theorem insert_reps {G : Hp} {vs : List V} {ds : List D} {j : Nat} {w : V} : Reps K A G (vs.eraseIdx j) ds → vs[j]? = some w → ∃ xs ys, vs = xs ++ w :: ys ∧ xs.length = j ∧ Reps K A G xs (ds.take j) ∧ Reps K A G ys (ds.drop j) := fun h e => by
  have hj := (List.getElem?_eq_some_iff.mp e).1
  refine ⟨vs.take j, vs.drop (j + 1), ?_, by rw [List.length_take]; omega, ?_, ?_⟩
  · have := (List.getElem?_eq_some_iff.mp e).2
    rw [← this]
    exact (List.take_append_drop j vs).symm.trans (by rw [List.drop_eq_getElem_cons hj])
  · have := h.take j
    rw [List.eraseIdx_eq_take_drop_succ, List.take_append_of_le_length (by rw [List.length_take]; omega), List.take_take, Nat.min_self] at this
    exact this
  · have := h.drop j
    rw [List.eraseIdx_eq_take_drop_succ, List.drop_append_of_le_length (by rw [List.length_take]; omega), List.drop_take, Nat.sub_self, List.take_zero, List.nil_append] at this
    exact this
end
end DY

set_option Elab.async false
set_option linter.all false
set_option maxRecDepth 100000
set_option maxHeartbeats 4000000
namespace DY
open PySem L2 PySem.Spec PyProof.Rows
variable [Tb]
section
variable {K : PySem.W.Frag} {A : CT} {G G' G1 G2 H H' H1 H2 : Hp} {σ σ' : L2.St} {ρ ρ1 ρ2 ρ' : Env} {Q : VK}
theorem ins_get {vs : List V} {ds : List D} {j : Nat} {w : V} {d : D} (h : Reps K A G (vs.eraseIdx j) ds) (e : vs[j]? = some w) : ∀ i, i ≠ j → ∀ x, (ds.take j ++ d :: ds.drop j)[i]? = some x → ∃ v, vs[i]? = some v ∧ Rep K A G v x := by
  obtain ⟨xs, ys, rfl, hl, h1, h2⟩ := insert_reps h e
  intro i hi x hx
  have tl : (ds.take j).length = j := by rw [← h1.len, hl]
  by_cases q : i < j
  · rw [List.getElem?_append_left (by omega)] at hx
    obtain ⟨v, e1, e2⟩ := h1.get' hx
    exact ⟨v, by rw [List.getElem?_append_left (by omega)]; exact e1, e2⟩
  · rw [List.getElem?_append_right (by omega), tl] at hx
    obtain ⟨m, hm⟩ : ∃ m, i - j = m + 1 := ⟨i - j - 1, by omega⟩
    rw [hm] at hx
    obtain ⟨v, e1, e2⟩ := h2.get' (show (ds.drop j)[m]? = some x by simpa using hx)
    refine ⟨v, ?_, e2⟩
    rw [List.getElem?_append_right (by omega), hl, hm]
    simpa using e1
theorem start_stR {N : List Str} {n p j : Nat} {vs : List V} {ds : List D} {d : D} {q : Addr} (hn : N.length = n) (hp : p ≤ n) (hvl : vs.length = p) (s : Sub G H) (e0 : vs[j]? = some (.ref q)) (rs : Reps K A G (vs.eraseIdx j) ds) (gn : G q = none) (hh : Has K A G H q d) (hl : ds.length + 1 = p) (hj : j < p) : St K A (L2.start N vs) G H ((slots n (ds.take j ++ d :: ds.drop j)).set j (.ow d)) ∧ ∀ i p', Own (L2.start N vs) ((slots n (ds.take j ++ d :: ds.drop j)).set j (.ow d)) i p' → i = j ∧ p' = q := by
  have dl : (ds.take j ++ d :: ds.drop j).length = p := by
    rw [List.length_append, List.length_cons, List.length_take, List.length_drop]; omega
  have sl : (L2.start N vs).length = n := by unfold L2.start; rw [List.length_append, List.length_map, List.length_replicate, hvl, hn]; omega
  have sj : (L2.start N vs)[j]? = some (some (.ref q)) := by
    unfold L2.start
    rw [List.getElem?_append_left (by rw [List.length_map]; omega), List.getElem?_map, e0]; rfl
  have ρl : (slots n (ds.take j ++ d :: ds.drop j)).length = n := by unfold slots; rw [List.length_append, List.length_map, List.length_replicate, dl]; omega
  have hslot : ∀ (i : Nat) (z : Slot), ((slots n (ds.take j ++ d :: ds.drop j)).set j (.ow d))[i]? = some z → (i = j ∧ z = .ow d) ∨ (i ≠ j ∧ ((∃ x v, z = Slot.sh x ∧ (L2.start N vs)[i]? = some (some v) ∧ Rep K A G v x) ∨ z = .un)) := fun i z hz => by
    by_cases q : j = i
    · subst q
      rw [List.getElem?_set_self (by omega)] at hz
      exact .inl ⟨rfl, (Option.some.inj hz).symm⟩
    · refine .inr ⟨fun z => q z.symm, ?_⟩
      rw [List.getElem?_set_ne q] at hz
      unfold slots at hz
      by_cases hi : i < p
      · rw [List.getElem?_append_left (by rw [List.length_map]; omega), List.getElem?_map] at hz
        obtain ⟨x, h1, h2⟩ := Option.map_eq_some_iff.mp hz
        obtain ⟨v, h3, h4⟩ := ins_get rs e0 i (fun z => q z.symm) x h1
        refine .inl ⟨x, v, h2.symm, ?_, h4⟩
        unfold L2.start
        rw [List.getElem?_append_left (by rw [List.length_map]; omega), List.getElem?_map, h3]; rfl
      · rw [List.getElem?_append_right (by rw [List.length_map]; omega)] at hz
        exact .inr (List.eq_of_mem_replicate (List.mem_of_getElem? hz))
  have ow : ∀ i p', Own (L2.start N vs) ((slots n (ds.take j ++ d :: ds.drop j)).set j (.ow d)) i p' → i = j ∧ p' = q := fun i p' ⟨⟨d2, h1⟩, h2⟩ => by
    rcases hslot i _ h1 with ⟨rfl, _⟩ | ⟨_, ⟨_, _, z, _⟩ | z⟩
    · rw [sj] at h2; cases h2; exact ⟨rfl, rfl⟩
    · cases z
    · cases z
  have s0 : St K A (L2.start N vs) G H ((slots n (ds.take j ++ d :: ds.drop j)).set j (.ow d)) := by
    refine ⟨s, by rw [List.length_set, sl, ρl], fun i z hz => ?_, fun a b p' ha hb => by rw [(ow a p' ha).1, (ow b p' hb).1]⟩
    rcases hslot i z hz with ⟨rfl, rfl⟩ | ⟨_, ⟨x, v, rfl, h1, h2⟩ | rfl⟩
    · exact ⟨q, getD_of sj, gn, hh⟩
    · exact ⟨v, getD_of h1, h2⟩
    · trivial
  exact ⟨s0, ow⟩
theorem enter_R {N : List Str} {n p j : Nat} {body : Sv} {vs : List V} {E : XK} (hn : N.length = n) (hp : p ≤ n) (h : spR K A (mkFnR n p j body) p j vs H Q E) : liftS K A (some j) body { nx := fun _ H' => Q .non H', rt := Q } (L2.start N vs) H := by
  obtain ⟨hvl, hj, G, ds, d, q, r, d', s, e0, rs, gn, hh, e, k⟩ := h
  unfold mkFnR at e
  split at e
  · rename_i hl
    obtain ⟨⟨o, ρ'⟩, e1, e⟩ := bind_ok e
    obtain ⟨r', e2, e⟩ := bind_ok e
    obtain ⟨s0, ow⟩ := start_stR (N := N) hn hp hvl s e0 rs gn hh hl.1 hj
    refine ⟨⟨G, H, some q⟩, G, _, o, ρ', ⟨s0, Ext.refl _ _ _, fun i p' z => ⟨fun _ => by rw [(ow i p' z).2], fun w => absurd (by rw [(ow i p' z).1]) w⟩⟩, e1, ?_⟩
    have fin : ∀ {v : V} {σ' : L2.St} {G' H' : Hp}, StF K A (some j) ⟨G, H, some q⟩ σ' G' H' ρ' → RepR K A (OwnS σ' ρ') H G' H' v r' → Q v H' := fun {v σ' G' H'} z hr => by
      split at e
      · rename_i d2 hd
        cases e
        obtain ⟨p', h1, h2, h3⟩ := z.st.at_ hd
        obtain rfl : q = p' := Option.some.inj ((z.own j p' ⟨⟨_, hd⟩, h1⟩).1 rfl)
        refine k v G' H' (z.ext.weak fun x w => (Option.some.inj w).symm) z.st.sub h2 h3 ?_
        unfold RepN RepR at *
        split at hr
        · rename_i q
          rw [if_pos q]
          obtain ⟨p, e, h1, h2, _, h4⟩ := hr
          exact ⟨p, e, h1, h2, id, h4⟩
        · rename_i q
          rw [if_neg q]; exact hr
      · cases e
    cases o with
    | nx => cases e2; exact fun σ' G' H' z => fin z (RepR.of .non)
    | bk => cases e2
    | ct => cases e2
    | rt r2 => cases e2; exact fun v σ' G' H' z hr => fin z hr
  · cases e
/-- a lent object comes back -/
theorem St.lent {i : Nat} {d d' : D} {p : Addr} (s : St K A σ G H ρ) (h : ρ[i]? = some (.ow d)) (hp : σ[i]? = some (some (.ref p))) (x : Ext (fun q => q = p) G H G' H') (sb : Sub G' H') (gn : G' p = none) (new : Has K A G' H' p d') : Nx K A σ G H ρ G' H' (ρ.set i (.ow d')) := by
  have hO : Own σ ρ i p := ⟨⟨d, h⟩, hp⟩
  have ow : ∀ k q, Own σ (ρ.set i (.ow d')) k q → Own σ ρ k q := fun k q ⟨⟨d2, h1⟩, h2⟩ => by
    by_cases e : i = k
    · subst e; exact ⟨⟨d, h⟩, h2⟩
    · rw [List.getElem?_set_ne e] at h1; exact ⟨⟨d2, h1⟩, h2⟩
  refine ⟨x.weak fun q e => e ▸ ⟨i, hO⟩, ⟨sb, by rw [List.length_set]; exact s.len, fun k z hz => ?_, fun a b q ha hb => s.dist a b q (ow a q ha) (ow b q hb)⟩, ow⟩
  by_cases e : i = k
  · subst e
    rw [List.getElem?_set_self (List.getElem?_eq_some_iff.mp h).1] at hz
    cases (Option.some.inj hz)
    exact ⟨p, getD_of hp, gn, new⟩
  · rw [List.getElem?_set_ne e] at hz
    have q := s.slot k z hz
    cases z with
    | un => trivial
    | sh d2 => obtain ⟨v, h1, h2⟩ := q; exact ⟨v, h1, h2.mono x.gs⟩
    | ow d2 =>
      obtain ⟨p2, e1, n1, h1⟩ := q
      have ne : p2 ≠ p := fun z => e (s.dist i k p hO ⟨⟨d2, hz⟩, z ▸ getD_some e1⟩)
      refine ⟨p2, e1, ?_, h1.mono x.gs fun u z nt => x.hs p2 u z ne nt⟩
      cases z : G' p2 with
      | none => rfl
      | some u =>
        rcases x.fr p2 (by rw [z]; exact fun x => nomatch x) with z | z | z
        · exact absurd n1 z
        · obtain ⟨o, ho⟩ := h1.ex; rw [ho] at z; cases z
        · exact absurd z ne
/-- .. where it was nobody's -/
theorem St.lent0 {p : Addr} (s : St K A σ G H ρ) (no : ¬ OwnS σ ρ p) (x : Ext (fun q => q = p) G H G' H') (sb : Sub G' H') : St K A σ G' H' ρ := by
  refine ⟨sb, s.len, fun k z hz => ?_, s.dist⟩
  have q := s.slot k z hz
  cases z with
  | un => trivial
  | sh d2 => obtain ⟨v, h1, h2⟩ := q; exact ⟨v, h1, h2.mono x.gs⟩
  | ow d2 =>
    obtain ⟨p2, e1, n1, h1⟩ := q
    have ne : p2 ≠ p := fun z => no ⟨k, ⟨d2, hz⟩, z ▸ getD_some e1⟩
    refine ⟨p2, e1, ?_, h1.mono x.gs fun u z nt => x.hs p2 u z ne nt⟩
    cases z : G' p2 with
    | none => rfl
    | some u =>
      rcases x.fr p2 (by rw [z]; exact fun x => nomatch x) with z | z | z
      · exact absurd n1 z
      · obtain ⟨o, ho⟩ := h1.ex; rw [ho] at z; cases z
      · exact absurd z ne
variable (K A) in
def liftAR (ms : List Ev) (i : Nat) (ms' : List Ev) : TA := fun σ H Q => ∃ G ρ ds es ρ1 ρ2 w, St K A σ G H ρ ∧ evs ms ρ = .ok (ds, ρ1) ∧ evs ms' ρ1 = .ok (es, ρ2) ∧ σ[i]? = some (some w) ∧ ∀ vs ws G' H', Nx K A σ G H ρ G' H' ρ2 → Reps K A G' vs ds → Reps K A G' ws es → Q (vs ++ w :: ws) H'
variable (K A) in
def liftAT (ms : List Ev) (m : Ev) : TA := fun σ H Q => ∃ G ρ ds ρ1 t ρ2, St K A σ G H ρ ∧ evs ms ρ = .ok (ds, ρ1) ∧ m ρ1 = .ok (t, ρ2) ∧ ∀ vs w G' H', Nx K A σ G H ρ G' H' ρ2 → Reps K A G' vs ds → RepR K A (OwnS σ ρ2) H G' H' w t → Q (vs ++ [w]) H'
end
section
variable {X : Cx} {A : CT} {x : Str} {pos pos' p : Pos} {i : Nat} {a e : Expr} {es : List Expr} {ma me : Ev} {ms ms' : List Ev}
theorem par_nil (h : PE X (.Name x pos') (tVar i)) (hr : PDA A X es ms) (hs : starEach (.Name x pos' :: es) X.env = (false, eval (.Name x pos') X.env) :: starEach es X.env := by rfl) : PA X (.Name x pos' :: es) (liftAR X.K A [] i ms) := PA.imp (pa_cons h hr hs) fun σ H Q q => by
  obtain ⟨G, ρ, ds, es, ρ1, ρ2, w, s, e1, e2, hw, k⟩ := q
  cases e1
  exact ⟨w, hw, G, _, es, ρ2, s, e2, fun ws G' H' n rs => k [] ws G' H' n .nil rs⟩
theorem pat_nil (he : PD A X e me) (hs : starEach [e] X.env = (false, eval e X.env) :: starEach [] X.env := by rfl) : PA X [e] (liftAT X.K A [] me) := PA.imp (pa_cons he pa_nil hs) fun σ H Q q => by
  obtain ⟨G, ρ, ds, ρ1, t, ρ2, s, e1, e2, k⟩ := q
  cases e1
  exact ⟨G, _, t, ρ2, s, e2, fun w G' H' n r => k [] w G' H' n .nil r⟩
/-! ### calls -/
variable {CX : CXT} {k n : Nat} {f C : Addr} {fd : FuncData} {ps : List Str} {E : XK}
theorem call_use {K : PySem.W.Frag} {F : Fn} {dvs : List V} {dds : List D} {σ : L2.St} {H : Hp} {Q : VK} (hF : ∀ ds r, F ds = .ok r → ds.length = n) (hd : ∀ G, Reps K A G dvs dds) (h : liftE K A (eN (fun xs => F (xs ++ dds)) ms) σ H Q) : tCall (spF K A F n) dvs E (liftA K A ms) σ H Q := by
  refine TA_mono (n_use h) fun vs H1 q => ?_
  obtain ⟨G, ds, r, s, rs, e, k⟩ := q
  have rr := rs.append (hd G)
  exact ⟨by rw [rr.len]; exact hF _ _ e, G, _, r, s, rr, e, k⟩
theorem pd_callD {F : Fn} {dvs : List V} {ds : List Value} {dds : List D} (hF : ∀ ds r, F ds = .ok r → ds.length = n) (hdd : ∀ G, Reps X.K A G dvs dds) (Fo : FnOk X.prog X.w X.K X.mg X.base CX k f fd ps (spF X.K A F n)) (hr : Room k X.A) (hg : Gl X x) (hm : X.mg x = some (.ref f)) (hk : PySem.W.keepIn X.K (.ref f) = true) (hb : Binds X.K fd ps ds) (hd : Vals dvs ds) (hx : Passes CX X E)
    (ha : PDA A X (e :: es) ms) (hdb : (x == ("__debug__" : Str)) = false := by decide) (he : starEach (e :: es) X.env = (false, eval e X.env) :: starEach es X.env := by rfl) (hpl : (backTo pos (starEach es X.env)).any (·.1) = false := by rfl) :
    PD A X (.Call (.Name x p) (e :: es) [] pos) (eN (fun xs => F (xs ++ dds)) ms) := PE.imp (pe_call Fo hr hg hm hk hb hd hx ha hdb he hpl) fun _ _ _ => call_use hF hdd
theorem app_nil {F : Fn} : (fun xs => F (xs ++ [])) = F := by funext xs; rw [List.append_nil]
theorem pd_call {F : Fn} (hF : ∀ ds r, F ds = .ok r → ds.length = n) (Fo : FnOk X.prog X.w X.K X.mg X.base CX k f fd ps (spF X.K A F n)) (hr : Room k X.A) (hg : Gl X x) (hm : X.mg x = some (.ref f)) (hk : PySem.W.keepIn X.K (.ref f) = true) (hb : Binds X.K fd ps []) (hx : Passes CX X E)
    (ha : PDA A X (e :: es) ms) (hdb : (x == ("__debug__" : Str)) = false := by decide) (he : starEach (e :: es) X.env = (false, eval e X.env) :: starEach es X.env := by rfl) (hpl : (backTo pos (starEach es X.env)).any (·.1) = false := by rfl) :
    PD A X (.Call (.Name x p) (e :: es) [] pos) (eN F ms) := by
  have := pd_callD (dds := []) hF (fun _ => .nil) Fo hr hg hm hk hb .nil hx ha hdb he hpl (p := p) (pos := pos)
  rw [app_nil] at this
  exact this
/-- lending slot i -/
theorem pd_callR {F : FnR} {jn : Nat} (Fo : FnOk X.prog X.w X.K X.mg X.base CX k f fd ps (spR X.K A F n jn)) (hj : jn = ms.length) (hn : n = ms.length + ms'.length + 1) (hr : Room k X.A) (hg : Gl X x) (hm : X.mg x = some (.ref f)) (hk : PySem.W.keepIn X.K (.ref f) = true) (hb : Binds X.K fd ps []) (hx : Passes CX X E)
    (ha : PA X (e :: es) (liftAR X.K A ms i ms')) (hdb : (x == ("__debug__" : Str)) = false := by decide) (he : starEach (e :: es) X.env = (false, eval e X.env) :: starEach es X.env := by rfl) (hpl : (backTo pos (starEach es X.env)).any (·.1) = false := by rfl) :
    PD A X (.Call (.Name x p) (e :: es) [] pos) (eCallR F ms i ms') := PE.imp (pe_call Fo hr hg hm hk hb .nil hx ha hdb he hpl) fun σ H Q h => by
  obtain ⟨G, ρ, r, ρ', s, e, kk⟩ := h
  obtain ⟨d0, e0, e⟩ := bind_ok e
  obtain ⟨⟨ds, ρ1⟩, e1, e⟩ := bind_ok e
  obtain ⟨⟨es', ρ2⟩, e2, e⟩ := bind_ok e
  obtain ⟨w, hw, _⟩ := look_at s e0
  refine ⟨G, ρ, ds, es', ρ1, ρ2, w, s, e1, e2, hw, fun vs ws G1 H1 n1 r1 r2 => ?_⟩
  dsimp only at e
  split at e
  · rename_i d hd
    obtain ⟨⟨r', d'⟩, e3, e⟩ := bind_ok e
    cases e
    obtain ⟨q, hq, gn, hh⟩ := n1.st.at_ hd
    rw [hw] at hq
    cases hq
    have hlen : ∀ {ms : List Ev} {ρ ρ' : Env} {ds : List D}, evs ms ρ = .ok (ds, ρ') → ds.length = ms.length := fun {ms} => by
      induction ms with
      | nil => intro ρ ρ' ds e; cases e; rfl
      | cons m ms ih =>
        intro ρ ρ' ds e
        obtain ⟨⟨d, ρ0⟩, e0, e⟩ := bind_ok e
        obtain ⟨⟨ds', ρ1'⟩, e3, e⟩ := bind_ok e
        cases e
        rw [List.length_cons, List.length_cons, ih e3]
    have lv : vs.length = jn := by rw [r1.len, hj, hlen e1]
    rw [List.append_nil]
    refine ⟨?_, by omega, G1, ds ++ es', d, q, r', d', n1.st.sub, ?_, ?_, gn, hh, e3, fun v G2 H2 x2 sb2 gn2 hh2 rn => ?_⟩
    · rw [List.length_append, List.length_cons, r1.len, r2.len, hlen e1, hlen e2, hn]; omega
    · rw [List.getElem?_append_right (by omega), lv]; simp
    · rw [List.eraseIdx_append_of_length_le (by omega), lv, Nat.sub_self]
      exact r1.append r2
    · have nl := n1.st.lent hd hw x2 sb2 gn2 hh2
      refine kk v G2 H2 (n1.trans nl) (later n1 ?_)
      have := rn.r n1.st
      unfold RepR at *
      split at this
      · rename_i q
        rw [if_pos q]
        obtain ⟨p, e, h1, h2, h3, h4⟩ := this
        exact ⟨p, e, h1, h2, fun ⟨i', z⟩ => h3 ⟨i', nl.own i' p z⟩, h4⟩
      · rename_i q
        rw [if_neg q]; exact this
  · cases e
/-- lending a new object -/
theorem pd_callT {F : FnR} {jn : Nat} (Fo : FnOk X.prog X.w X.K X.mg X.base CX k f fd ps (spR X.K A F n jn)) (hj : jn = ms.length) (hn : n = ms.length + 1) (hr : Room k X.A) (hg : Gl X x) (hm : X.mg x = some (.ref f)) (hk : PySem.W.keepIn X.K (.ref f) = true) (hb : Binds X.K fd ps []) (hx : Passes CX X E)
    (ha : PA X (e :: es) (liftAT X.K A ms me)) (hdb : (x == ("__debug__" : Str)) = false := by decide) (he : starEach (e :: es) X.env = (false, eval e X.env) :: starEach es X.env := by rfl) (hpl : (backTo pos (starEach es X.env)).any (·.1) = false := by rfl) :
    PD A X (.Call (.Name x p) (e :: es) [] pos) (eCallT F ms me) := PE.imp (pe_call Fo hr hg hm hk hb .nil hx ha hdb he hpl) fun σ H Q h => by
  obtain ⟨G, ρ, r, ρ', s, e, kk⟩ := h
  obtain ⟨⟨ds, ρ1⟩, e1, e⟩ := bind_ok e
  obtain ⟨⟨t, ρ2⟩, e2, e⟩ := bind_ok e
  refine ⟨G, ρ, ds, ρ1, t, ρ2, s, e1, e2, fun vs w G1 H1 n1 r1 rt => ?_⟩
  dsimp only at e
  split at e
  · rename_i ht
    obtain ⟨⟨r', d'⟩, e3, e⟩ := bind_ok e
    cases e
    unfold RepR at rt
    rw [if_pos ht] at rt
    obtain ⟨q, rfl, gn, hh, no, hq⟩ := rt
    have hlen : ∀ {ms : List Ev} {ρ ρ' : Env} {ds : List D}, evs ms ρ = .ok (ds, ρ') → ds.length = ms.length := fun {ms} => by
      induction ms with
      | nil => intro ρ ρ' ds e; cases e; rfl
      | cons m ms ih =>
        intro ρ ρ' ds e
        obtain ⟨⟨d, ρ0⟩, e0, e⟩ := bind_ok e
        obtain ⟨⟨ds', ρ1'⟩, e3, e⟩ := bind_ok e
        cases e
        rw [List.length_cons, List.length_cons, ih e3]
    have lv : vs.length = jn := by rw [r1.len, hj, hlen e1]
    rw [List.append_nil]
    refine ⟨?_, by omega, G1, ds, t.1, q, r', d', n1.st.sub, ?_, ?_, gn, hh, e3, fun v G2 H2 x2 sb2 gn2 hh2 rn => ?_⟩
    · rw [List.length_append, r1.len, hlen e1, hn]; rfl
    · rw [List.getElem?_append_right (by omega), lv]; simp
    · rw [List.eraseIdx_append_of_length_le (by omega), lv, Nat.sub_self]
      simp
      exact r1
    · have st2 := n1.st.lent0 no x2 sb2
      have nn : Nx X.K A σ G H ρ G2 H2 ρ' := ⟨n1.ext.trans x2 fun p z => .inr (z ▸ hq), st2, n1.own⟩
      refine kk v G2 H2 nn (later n1 (rn.r n1.st))
  · cases e
end
end DY

set_option Elab.async false
set_option linter.all false
set_option maxRecDepth 100000
set_option maxHeartbeats 4000000
namespace DY
open PySem L2 PySem.Spec PyProof.Rows
variable [Tb]
section
variable {X : Cx} {A : CT} {x m : Str} {pos pos' p apos : Pos} {i : Nat} {a e : Expr} {es : List Expr} {ma me : Ev} {ms ks : List Ev} {kws : List Keyword}
variable {CX : CXT} {k n : Nat} {f C : Addr} {fd : FuncData} {ps knm : List Str} {E : XK}
/-! ### C(..) -/
theorem make_use {K : PySem.W.Frag} {init : FnR} {c : Nat} {H : Hp} {Q : VK} {vs : List V} {G : Hp} {ds : List D} {r : Rv} (hc : c ∈ A.cs) (hl : vs.length + 1 = n) (s : Sub G H) (rs : Reps K A G vs ds) (e : mkObj c init ds = .ok r) (kk : ∀ v G' H', Nx0 G H G' H' → RepN K A H G' H' v r → Q v H') :
    ∀ x dx, H x = none → H dx = none → dx ≠ x → spR K A init n 0 (.ref x :: vs) (upd (upd H dx (.own x)) x (.ins (A.ad c) dx [])) (fun v H2 => v = .non ∧ Q (.ref x) H2) E := by
  intro y dx hy hdx hne
  obtain ⟨⟨r0, d'⟩, e1, e⟩ := bind_ok e
  dsimp only at e
  split at e
  · cases e
    have gno : ∀ q, H q = none → G q = none := fun q hq => by
      cases z : G q with
      | none => rfl
      | some u => obtain ⟨o, ho⟩ := s.ex z; rw [hq] at ho; cases ho
    have keepH : ∀ q o, H q = some o → upd (upd H dx (.own y)) y (.ins (A.ad c) dx []) q = some o := fun q o h => by rw [upd_ne (ne_of_none h hy), upd_ne (ne_of_none h hdx)]; exact h
    have s2 : Sub G (upd (upd H dx (.own y)) y (.ins (A.ad c) dx [])) := ⟨fun q o h => by
      rcases s q o h with h | ⟨z, ob, h⟩
      · exact .inl (keepH q o h)
      · exact .inr ⟨z, ob, keepH q _ h⟩, s.tb.ext keepH, s.nt, s.bs⟩
    refine ⟨by rw [List.length_cons]; exact hl, by omega, G, ds, .ins c [], y, (.non, false), d', s2, rfl, rs, gno y hy, ⟨dx, [], ?_, Nat.zero_le _, hc, .nil⟩, e1, fun v G' H' x' sb gn hh rn => ?_⟩
    · rw [upd_same, List.zip_nil_right]
    · cases (show Rep K A G' v .non from rn)
      refine ⟨rfl, ?_⟩
      obtain ⟨o, ho, rr⟩ := hh.frz gn
      have g2 : L2.Same G' (upd G' y o) := SL.Same.new gn
      refine kk (.ref y) (upd G' y o) H' ⟨⟨x'.gs.trans g2, fun q hq => ?_, fun q u h _ nt => x'.hs q u (keepH q u h) (ne_of_none h hy) nt, fun q h => x'.there q ?_⟩, ⟨fun q u h => ?_, sb.tb, sb.nt_upd hh.nt ho, sb.bs.trans g2⟩⟩ (RepR.of rr)
      · by_cases z : q = y
        · subst z; exact .inr (.inl hy)
        · rw [upd_ne z] at hq
          rcases x'.fr q hq with w | w | w
          · exact .inl w
          · refine .inr (.inl ?_)
            cases w2 : H q with
            | none => rfl
            | some u => rw [keepH q u w2] at w; cases w
          · exact absurd w z
      · cases w2 : H q with
        | none => exact absurd w2 h
        | some u => rw [keepH q u w2]; exact fun x => nomatch x
      · by_cases z : q = y
        · subst z; rw [upd_same] at h; cases h; exact .inl ho
        · rw [upd_ne z] at h; exact sb q u h
  · cases e
theorem pd_make {init : FnR} {c : Nat} {dvs : List V} {ds : List Value} {dds : List D} (hc : c ∈ A.cs) (hF : ∀ ds d r, init ds d = .ok r → ds.length + 1 = n) (hdd : ∀ G, Reps X.K A G dvs dds) (M : Mk X.K (A.ad c) f) (Fo : FnOk X.prog X.w X.K X.mg X.base CX k f fd ps (spR X.K A init n 0)) (hr : Room (k + 1) X.A) (hg : Gl X x) (hm : X.mg x = some (.ref (A.ad c))) (hb : Binds X.K fd ps ds) (hd : Vals dvs ds) (hx : Passes CX X E)
    (ha : PDA A X (e :: es) ms) (hdb : (x == ("__debug__" : Str)) = false := by decide) (he : starEach (e :: es) X.env = (false, eval e X.env) :: starEach es X.env := by rfl) (hpl : (backTo pos (starEach es X.env)).any (·.1) = false := by rfl) :
    PD A X (.Call (.Name x p) (e :: es) [] pos) (eN (fun xs => mkObj c init (xs ++ dds)) ms) := PE.imp (pe_make M Fo hr hg hm hb hd hx ha hdb he hpl) fun σ H Q h => by
  refine TA_mono (n_use h) fun vs H1 q => ?_
  obtain ⟨G, ds, r, s, rs, e, k⟩ := q
  have rr := rs.append (hdd G)
  refine make_use hc ?_ s rr e k
  obtain ⟨⟨r0, d'⟩, e1, _⟩ := bind_ok e
  rw [rr.len]; exact hF _ _ _ e1
/-! ### keywords -/
abbrev PDK (A : CT) (X : Cx) (kws : List Keyword) (ms : List Ev) : Prop := PK X kws (liftA X.K A ms)
theorem PK.imp {X : Cx} {e : List Keyword} {t t' : TA} (h : PK X e t) (k : ∀ σ H Q, t' σ H Q → t σ H Q) : PK X e t' := ⟨fun pos pins s σ H Q I q => h.run pos pins s σ H Q I (k σ H Q q)⟩
theorem pdk_nil : PDK A X [] [] := PK.imp pk_nil fun σ H Q h => by
  obtain ⟨G, ρ, ds, ρ', s, e, k⟩ := h
  cases e
  exact k [] G H (Nx.refl s) .nil
theorem pdk_cons {nm : Option Str} {kpos : Pos} (ha : PD A X a ma) (hr : PDK A X kws ms) : PDK A X (⟨nm, a, kpos⟩ :: kws) (ma :: ms) := PK.imp (pk_cons ha hr) fun _ _ _ => cons_use
/-- the values in the parameters' order, over V and over data -/
structure GV (gV : List V → List V → List V) (g : List D → List D → List D) : Prop where
  rel : ∀ {K : PySem.W.Frag} {A : CT} {G : Hp} {vs zs : List V} {ds es : List D}, Reps K A G vs ds → Reps K A G zs es → Reps K A G (gV vs zs) (g ds es)
theorem evs_len : ∀ {ms : List Ev} {ρ ρ' : Env} {ds : List D}, evs ms ρ = .ok (ds, ρ') → ds.length = ms.length := fun {ms} => by
  induction ms with
  | nil => intro ρ ρ' ds e; cases e; rfl
  | cons m ms ih =>
    intro ρ ρ' ds e
    obtain ⟨⟨d, ρ0⟩, e0, e⟩ := bind_ok e
    obtain ⟨⟨ds', ρ1'⟩, e3, e⟩ := bind_ok e
    cases e
    rw [List.length_cons, List.length_cons, ih e3]
/-! ### o.m(..) -/
/-! ### own operators -/
theorem o_sel {f : Value → Value → Sem Value} {g : D → D → Bool} {h1 h2 : D → D → R Rv} (a : OpR X f (rD X.K A (sel g h1 no2))) (b : OpR X f (rD X.K A h2)) : OpR X f (rD X.K A (sel g h1 h2)) := by
  intro pins s σ H x y v u Q I rx ry h
  obtain ⟨G, d1, d2, r, sb, r1, r2, e, k⟩ := h
  unfold sel at e
  by_cases q : g d1 d2 = true
  · rw [if_pos q] at e
    exact a pins s σ H x y v u Q I rx ry ⟨G, d1, d2, r, sb, r1, r2, by unfold sel; rw [if_pos q]; exact e, k⟩
  · rw [if_neg q] at e
    exact b pins s σ H x y v u Q I rx ry ⟨G, d1, d2, r, sb, r1, r2, e, k⟩
theorem isC_ok {c : Nat} {d : D} (h : isC c d = true) : ∃ fs, d = .ins c fs := by
  unfold isC at h
  split at h
  · have := of_decide_eq_true h
    subst this
    exact ⟨_, rfl⟩
  · cases h
theorem sel_ok {g : D → D → Bool} {h1 : D → D → R Rv} {x y : D} {r : Rv} (e : sel g h1 no2 x y = .ok r) : g x y = true ∧ h1 x y = .ok r := by
  unfold sel at e
  by_cases q : g x y = true
  · rw [if_pos q] at e; exact ⟨q, e⟩
  · rw [if_neg q] at e; cases e
theorem sp2 {K : PySem.W.Frag} {F : Fn} {G H : Hp} {Q : VK} {v w : V} {d e : D} {r : Rv} (s : Sub G H) (r1 : Rep K A G v d) (r2 : Rep K A G w e) (h : F [d, e] = .ok r) (k : ∀ v G' H', Nx0 G H G' H' → RepN K A H G' H' v r → Q v H') : spF K A F 2 [v, w] H Q E := ⟨rfl, G, _, r, s, .cons r1 (.cons r2 .nil), h, k⟩
theorem hasTy_ok {d : D} (h : hasTy d = true) : ∃ t, tyD A d = some t := by
  cases d <;> first | exact ⟨_, rfl⟩ | cases h
theorem nf_D {K : PySem.W.Frag} {G : Hp} {v : V} {d : D} {t : Value} {c : Nat} (kd : KD K A) (hc : c ∈ A.cs) (r : Rep K A G v d) (e : tyD A d = some t) : PySem.W.notFirst K (A.ad c) t = true := by
  have nf := (kd.cf _ hc).nf
  cases r with
  | ins h l c' q => cases e; exact kd.nn _ hc _ c'
  | _ => first | (cases e; done) | (cases e; exact nf _ (by simp))
/-- own == -/
theorem o_eqC {F : Fn} {c : Nat} (kd : KD X.K A) (hc : c ∈ A.cs) (o : SL.OwnOp X.K (A.ad c) f "__eq__") (Fo : FnOk X.prog X.w X.K X.mg X.base CX k f fd ps (spF X.K A F 2)) (hr : Room k X.A) (hb : Binds X.K fd ps []) (hx : Passes CX X E) :
    OpR X (compareOp .Eq) (rD X.K A (sel (cany c) (fun x y => F [x, y]) no2)) := by
  intro pins s σ H x y v u Q I rx ry h
  obtain ⟨G, d1, d2, r, sb, r1, r2, e, k⟩ := h
  obtain ⟨q, e⟩ := sel_ok e
  unfold cany at q
  rw [Bool.and_eq_true] at q
  obtain ⟨f1, rfl⟩ := isC_ok q.1
  obtain ⟨t, ht⟩ := hasTy_ok (A := A) q.2
  cases id r1 with
  | ins hh => exact SL.op_eqOwn o Fo hr hb hx pins s σ H _ _ v u Q I rx ry ⟨_, _, _, t, rfl, sb.ins hh, rep_ty kd sb r2 ht, nf_D kd hc r2 ht, sp2 sb r1 r2 e k⟩
theorem o_neC {F : Fn} {c : Nat} (kd : KD X.K A) (hc : c ∈ A.cs) (o : SL.OwnOp X.K (A.ad c) f "__eq__") (hne : PySem.W.findIn X.K (.ref (A.ad c)) "__ne__" = some (some (.builtin "object.__ne__"))) (hob : PySem.W.subIn X.K (.ref (A.ad c)) (.type "object") = some true) (Fo : FnOk X.prog X.w X.K X.mg X.base CX k f fd ps (spF X.K A F 2)) (hr : Room (k + 1) X.A) (hb : Binds X.K fd ps []) (hx : Passes CX X E) :
    OpR X (compareOp .NotEq) (rD X.K A (neOf (sel (cany c) (fun x y => F [x, y]) no2))) := by
  intro pins s σ H x y v u Q I rx ry h
  obtain ⟨G, d1, d2, r, sb, r1, r2, e, kk⟩ := h
  obtain ⟨⟨r0, fr⟩, e1, e⟩ := bind_ok e
  obtain ⟨b, e2, e⟩ := bind_ok e
  cases e
  obtain ⟨q, e1⟩ := sel_ok e1
  unfold cany at q
  rw [Bool.and_eq_true] at q
  obtain ⟨f1, rfl⟩ := isC_ok q.1
  obtain ⟨t, ht⟩ := hasTy_ok (A := A) q.2
  obtain rfl := isB_ok e2
  cases id r1 with
  | ins hh =>
    refine SL.op_neOwn o hne hob Fo hr hb hx pins s σ H _ _ v u Q I rx ry ⟨_, _, _, t, rfl, sb.ins hh, rep_ty kd sb r2 ht, nf_D kd hc r2 ht, sp2 sb r1 r2 e1 fun v' G' H' n0 rn => ?_⟩
    have : fr = false := by
      cases fr with
      | false => rfl
      | true => obtain ⟨p, _, _, z, _⟩ := rn; exact z.elim
    subst this
    cases (show Rep X.K A G' v' (.bl b) from rn)
    exact ⟨b, rfl, kk _ G' H' n0 (RepR.of (.bl _))⟩
theorem neOf_sel {g : D → D → Bool} {h1 h2 : D → D → R Rv} (a : OpR X (compareOp .NotEq) (rD X.K A (neOf (sel g h1 no2)))) (b : OpR X (compareOp .NotEq) (rD X.K A (neOf h2))) : OpR X (compareOp .NotEq) (rD X.K A (neOf (sel g h1 h2))) := by
  intro pins s σ H x y v u Q I rx ry h
  obtain ⟨G, d1, d2, r, sb, r1, r2, e, k⟩ := h
  unfold neOf sel at e
  by_cases q : g d1 d2 = true
  · rw [if_pos q] at e
    exact a pins s σ H x y v u Q I rx ry ⟨G, d1, d2, r, sb, r1, r2, by unfold neOf sel; rw [if_pos q]; exact e, k⟩
  · rw [if_neg q] at e
    exact b pins s σ H x y v u Q I rx ry ⟨G, d1, d2, r, sb, r1, r2, e, k⟩
end
end DY

set_option Elab.async false
set_option linter.all false
set_option maxRecDepth 100000
set_option maxHeartbeats 4000000
namespace DY
open PySem L2 PySem.Spec PyProof.Rows
variable [Tb]
/-! ### targets -/
section
variable (K : PySem.W.Frag) (A : CT)
def liftG (ws : List Nat) (g : Tg) : TG := fun v σ H Q => ∃ G ρ d ρ', St K A σ G H ρ ∧ Rep K A G v d ∧ g d ρ = .ok ρ' ∧ ∀ σ', St K A σ' G H ρ' → (∀ i p, Own σ' ρ' i p → Own σ ρ i p) → σ'.length = σ.length → (∀ i, i ∉ ws → σ'[i]? = σ[i]?) → Q σ' H
def liftGs (ws : List Nat) (gs : List Tg) : TGs := fun vs σ H Q => ∃ G ρ ds ρ', St K A σ G H ρ ∧ Reps K A G vs ds ∧ gGo gs ds ρ = .ok ρ' ∧ ∀ σ', St K A σ' G H ρ' → (∀ i p, Own σ' ρ' i p → Own σ ρ i p) → σ'.length = σ.length → (∀ i, i ∉ ws → σ'[i]? = σ[i]?) → Q σ' H
end
section
variable {X : Cx} {A : CT} {pos : Pos}
theorem PG.imp {X : Cx} {e : Expr} {t t' : TG} (h : PG X e t) (k : ∀ v σ H Q, t' v σ H Q → t v σ H Q) : PG X e t' := ⟨fun pins s σ H v u Q I r q => h.run pins s σ H v u Q I r (k v σ H Q q)⟩
theorem PGs.imp {X : Cx} {e : List Expr} {t t' : TGs} (h : PGs X e t) (k : ∀ v σ H Q, t' v σ H Q → t v σ H Q) : PGs X e t' := ⟨fun pins s σ H v u Q I r q => h.run pins s σ H v u Q I r (k v σ H Q q)⟩
theorem pdg_name {i : Nat} {x : Str} (h : PG X (.Name x pos) (gName i)) : PG X (.Name x pos) (liftG X.K A [i] (gN i)) := PG.imp h fun v σ H Q q => by
  obtain ⟨G, ρ, d, ρ', s, r, e, k⟩ := q
  cases e
  exact k _ (s.store r).1 (fun k p z => ((s.store r).2 k p z).1) (List.length_set ..) fun k hk => List.getElem?_set_ne fun z => hk (by simp [z])
theorem pdgs_nil : PGs X [] (liftGs X.K A [] []) := PGs.imp pgs_nil fun v σ H Q q => by
  obtain ⟨G, ρ, d, ρ', s, r, e, k⟩ := q
  unfold gGo at e
  split at e
  · cases e; cases r; exact ⟨rfl, k σ s (fun _ _ z => z) rfl fun _ _ => rfl⟩
  · rename_i h; cases h
  · cases e
theorem pdgs_cons {e : Expr} {es : List Expr} {g : Tg} {gs : List Tg} {ws ws' : List Nat} (h1 : PG X e (liftG X.K A ws g)) (h2 : PGs X es (liftGs X.K A ws' gs))
    (hs : (assignEach (e :: es) X.env).map (·.2) = assign e X.env :: (assignEach es X.env).map (·.2) := by rfl) : PGs X (e :: es) (liftGs X.K A (ws ++ ws') (g :: gs)) := PGs.imp (pgs_cons h1 h2 hs) fun v σ H Q q => by
  obtain ⟨G, ρ, ds, ρ', s, r, e, k⟩ := q
  cases ds with
  | nil => unfold gGo at e; cases e
  | cons d ds =>
    obtain ⟨ρ1, e1, e⟩ := bind_ok e
    cases r with
    | cons r1 r2 =>
      refine ⟨_, _, rfl, G, ρ, d, ρ1, s, r1, e1, fun σ1 s1 o1 l1 w1 => ⟨G, ρ1, ds, ρ', s1, r2, e, fun σ2 s2 o2 l2 w2 => k σ2 s2 (fun i p z => o1 i p (o2 i p z)) (l2.trans l1) fun i hi => ?_⟩⟩
      rw [w2 i fun z => hi (List.mem_append_right _ z), w1 i fun z => hi (List.mem_append_left _ z)]
theorem gGo_len : ∀ {gs : List Tg} {ds : List D} {ρ ρ' : Env}, gGo gs ds ρ = .ok ρ' → ds.length = gs.length
  | [], [], _, _, _ => rfl
  | [], _ :: _, _, _, e => by unfold gGo at e; cases e
  | _ :: _, [], _, _, e => by unfold gGo at e; cases e
  | g :: gs, d :: ds, ρ, ρ', e => by
    obtain ⟨ρ1, e1, e⟩ := bind_ok e
    rw [List.length_cons, List.length_cons, gGo_len e]
theorem pdg_tup {es : List Expr} {k : Nat} {gs : List Tg} {ws : List Nat} (hc : X.calm = true) (h : PGs X es (liftGs X.K A ws gs))
    (hn : (assignEach es X.env).length = gs.length := by rfl) (hst : (assignEach es X.env).findIdx? (·.1) = none := by rfl) : PG X (.Tuple es k pos) (liftG X.K A ws (gT gs)) := PG.imp (pg_tup hc h hn hst) fun v σ H Q q => by
  obtain ⟨G, ρ, d, ρ', s, r, e, k⟩ := q
  unfold gT at e
  split at e
  · obtain ⟨p, vs, rfl, h1, q1⟩ := r.sqT s.sub
    exact ⟨p, vs, rfl, h1, by rw [q1.len]; exact gGo_len e, G, ρ, _, ρ', s, q1, e, k⟩
  · obtain ⟨p, vs, rfl, h1, q1⟩ := r.sqK s.sub
    exact ⟨p, vs, rfl, SqT.of h1, by rw [q1.len]; exact gGo_len e, G, ρ, _, ρ', s, q1, e, k⟩
  · cases e
/-- target = e -/
theorem pds_asgT {tg e : Expr} {me : Ev} {g : Tg} {ws : List Nat} {j : Option Nat} (he : PD A X e me) (hg : PG X tg (liftG X.K A ws g)) (hs : swapsWithSole [tg] e pos.line X.env = pure false := by rfl) (hw : swappedStores [tg] e X.env = pure none := by rfl)
    (h1 : (assignEach [tg] X.env).map (·.2) = [assign tg X.env] := by rfl) : PDS A j X (.Assign [tg] e pos) (sAsgT g me) := PS.imp (ps_asg he hg hs hw h1) fun D σ H h => by
  obtain ⟨B, G, ρ, o, ρ', s, e, k⟩ := h
  obtain ⟨⟨x, ρ1⟩, e1, e⟩ := bind_ok e
  obtain ⟨ρ2, e2, e⟩ := bind_ok e
  cases e
  refine use_val s.st e1 fun v G1 H1 n r => ?_
  have s1 := s.step n
  exact ⟨G1, ρ1, x, _, n.st, r, e2, fun σ' st' ow _ _ => k σ' G1 H1 ⟨st', s1.ext, fun i p z => s1.own i p (ow i p z)⟩⟩
end
/-! ### what is walked -/
section
variable (K : PySem.W.Frag) (A : CT)
def WalkD (Φ : Hp → Hp → Prop) (J : It) (ds : List D) : Prop := ∃ (Gd : Hp → Prop) (Y : Nat → Hp → V → Hp → Prop), Walk J ds.length Gd Y ∧ (∀ G H, Φ G H → Gd H) ∧
  ∀ i G H x H', i < ds.length → Φ G H → Y i H x H' → ∃ G2 d, Nx0 G H G2 H' ∧ ds[i]? = some d ∧ Rep K A G2 x d
/-- what is shared stays -/
def Keep (G0 : Hp) (G H : Hp) : Prop := L2.Same G0 G ∧ Sub G H
def liftI (m : Iv) : TI := fun σ H R => ∃ G ρ ds ρ', St K A σ G H ρ ∧ m ρ = .ok (ds, ρ') ∧ ∀ J G' H', Nx K A σ G H ρ G' H' ρ' → WalkD K A (Keep G') J ds → R J H'
end
abbrev PDI (A : CT) (X : Cx) (tg e : Expr) (m : Iv) : Prop := PI X tg e (liftI X.K A m)
section
variable {K : PySem.W.Frag} {A : CT} {G G' : Hp} {X : Cx} {tg e : Expr} {me : Ev} {p pos : Pos}
theorem walkD_at {J : It} {ds : List D} {vs : List V} {Gd : Hp → Prop} (w : Walk J vs.length Gd (YAt vs)) (hg : ∀ G H, L2.Same G' G → Sub G H → Gd H) (r : Reps K A G' vs ds) : WalkD K A (Keep G') J ds := by
  refine ⟨Gd, YAt vs, by rw [← r.len]; exact w, fun G H k => hg G H k.1 k.2, fun i G H x H' hi ⟨g, s⟩ y => ?_⟩
  obtain ⟨rfl, hx⟩ := y
  obtain ⟨d, h1, h2⟩ := r.get hx
  exact ⟨G, d, Nx0.refl s, h1, h2.mono g⟩
theorem pdi_val (he : PD A X e me) : PDI A X tg e (iVal me) := ⟨fun pins s σ H R I h => by
  obtain ⟨G, ρ, ds, ρ', st, e, k⟩ := h
  obtain ⟨⟨x, ρ1⟩, e1, e⟩ := bind_ok e
  obtain ⟨ds', e2, e⟩ := bind_ok e
  cases e
  unfold items at e2
  split at e2
  · cases e2
    refine (pi_list he).run pins s σ H R I (use_val st e1 fun v G1 H1 n r => ?_)
    cases r with | lst h q =>
    exact ⟨_, rfl, ⟨_, SqL.of (n.st.sub.lst h)⟩, k _ G1 H1 n (walkD_at walk_list (fun G H g s => SqL.of (s.lst (g _ _ h))) q)⟩
  · cases e2
    refine (pi_list he).run pins s σ H R I (use_val st e1 fun v G1 H1 n r => ?_)
    cases r with | fls h q =>
    exact ⟨_, rfl, ⟨_, n.st.sub.sqL h⟩, k _ G1 H1 n (walkD_at walk_list (fun G H g s => s.sqL (sqL_same g h)) q)⟩
  · cases e2
    refine (pi_tup he).run pins s σ H R I (use_val st e1 fun v G1 H1 n r => ?_)
    cases r with
    | tup nd h q => exact ⟨_, rfl, ⟨_, .inl (.inr ⟨_, n.st.sub.frt h⟩)⟩, k _ G1 H1 n (walkD_at walk_tup (fun G H g s => .inl (.inr ⟨_, s.frt (g _ _ h)⟩)) q)⟩
    | emp a b c d => exact ⟨_, rfl, ⟨_, sqT_emp a b d⟩, k _ G1 H1 n (walkD_at (vs := []) walk_tup (fun G H g s => sqT_emp a b d) .nil)⟩
  · rename_i l
    cases e2
    refine (pi_str he).run pins s σ H R I (use_val st e1 fun v G1 H1 n r => ?_)
    cases r
    refine ⟨_, rfl, k _ G1 H1 n ⟨_, _, by rw [List.length_map, show l.length = (S l).cps.size by simp [S]]; exact walk_str, fun _ _ _ => trivial, fun i G H x H' hi ⟨g, s⟩ y => ?_⟩⟩
    obtain ⟨rfl, c, hc, rfl⟩ := y
    have hc' : l[i]? = some c := by
      have : l.toArray[i]? = some c := hc
      simpa using this
    exact ⟨G, .str [c], Nx0.refl s, by rw [List.getElem?_map, hc']; rfl, .str [c]⟩
  · cases e2⟩
theorem rng_get : ∀ {n : Nat} {lo : Int} {i : Nat}, i < n → (rng lo n)[i]? = some (.int (lo + i))
  | 0, _, _, h => by omega
  | n + 1, lo, 0, _ => by show some (D.int lo) = _; simp
  | n + 1, lo, i + 1, h => by
    show (rng (lo + 1) n)[i]? = _
    rw [rng_get (by omega)]
    congr 2
    omega
theorem rng_len : ∀ {n : Nat} {lo : Int}, (rng lo n).length = n
  | 0, _ => rfl
  | n + 1, lo => by show (rng (lo + 1) n).length + 1 = _; rw [rng_len]
theorem walkD_rng {lo : Int} {n : Nat} : WalkD K A (Keep G) (Itr lo n) (rng lo n) := ⟨_, _, by rw [rng_len]; exact walk_range, fun _ _ _ => trivial, fun i G H x H' hi ⟨g, s⟩ y => by
  obtain ⟨rfl, rfl⟩ := y
  rw [rng_len] at hi
  exact ⟨G, _, Nx0.refl s, rng_get hi, .int _⟩⟩
theorem pdi_range1 {a : Expr} {ma : Ev} (hg : Gl X "range") (hm : X.mg "range" = none) (ha : PDA A X [a] [ma]) (hs : starEach [a] X.env = [(false, eval a X.env)] := by rfl) : PDI A X tg (.Call (.Name "range" p) [a] [] pos) (iRange [ma]) := ⟨fun pins s σ H R I h => (pi_range1 hg hm ha hs).run pins s σ H R I (by
  obtain ⟨G, ρ, ds, ρ', st, e, k⟩ := h
  obtain ⟨⟨xs, ρ1⟩, e1, e⟩ := bind_ok e
  refine ⟨G, ρ, xs, ρ1, st, e1, fun vs G1 H1 n r => ?_⟩
  dsimp only at e
  split at e
  · split at e
    · rename_i q
      cases e
      obtain ⟨v, rfl, rq⟩ := r.inv1
      cases rq
      exact ⟨_, rfl, q.1, q.2, k _ G1 H1 n walkD_rng⟩
    · cases e
  · have := evs_len e1; cases this
  · cases e)⟩
end
/-! ### for, while -/
section
variable {K : PySem.W.Frag} {A : CT} {j : Option Nat} {B : Bs} {G G' G1 G2 H H' H1 H2 : Hp} {σ σ' : L2.St} {ρ ρ1 ρ2 ρ' : Env}
theorem StF.rebase (s : StF K A j B σ G H ρ) : StF K A j { B with G := G } σ G H ρ := ⟨s.st, ⟨fun _ _ z => z, fun _ z => .inl z, s.ext.hs, s.ext.there⟩, s.own⟩
theorem StF.unbase (s : StF K A j B σ G1 H1 ρ1) (s' : StF K A j { B with G := G1 } σ' G' H' ρ') : StF K A j B σ' G' H' ρ' :=
  ⟨s'.st, ⟨s.ext.gs.trans s'.ext.gs, fun p z => (s'.ext.fr p z).elim (fun w => s.ext.fr p w) .inr, s'.ext.hs, s'.ext.there⟩, s'.own⟩
theorem forGo_cons {g : Tg} {body : Sv} {d : D} {ds : List D} {o : Out} (e : forGo g body (d :: ds) ρ = .ok (o, ρ')) : ∃ ρa ob ρb, g d ρ = .ok ρa ∧ body ρa = .ok (ob, ρb) ∧ ((ob = .nx ∨ ob = .ct) ∧ forGo g body ds ρb = .ok (o, ρ') ∨ (ob = .bk ∧ o = .nx ∧ ρ' = ρb) ∨ ∃ r, ob = .rt r ∧ o = .rt r ∧ ρ' = ρb) := by
  obtain ⟨ρa, e1, e⟩ := bind_ok e
  obtain ⟨⟨ob, ρb⟩, e2, e⟩ := bind_ok e
  refine ⟨ρa, ob, ρb, e1, e2, ?_⟩
  cases ob with
  | nx => exact .inl ⟨.inl rfl, e⟩
  | ct => exact .inl ⟨.inr rfl, e⟩
  | bk => cases e; exact .inr (.inl ⟨rfl, rfl, rfl⟩)
  | rt r => cases e; exact .inr (.inr ⟨r, rfl, rfl, rfl⟩)
theorem for_main {Φ : Hp → Hp → Prop} {J : It} {ds : List D} {ws : List Nat} {g : Tg} {body : Sv} {D : Ends} {o : Out} (s1 : StF K A j B σ G1 H1 ρ1) (wd : WalkD K A Φ J ds) (hΦ : ∀ σ' G' H' ρ', StF K A j { B with G := G1 } σ' G' H' ρ' → Φ G' H') (e : forGo g body ds ρ1 = .ok (o, ρ')) (k : SOut K A j B D o ρ') :
    ∃ W : Nat → Nat → L2.St → Hp → Prop, (∃ m, W 0 m σ H1) ∧ ∀ i m σ H, W i m σ H →
      (J.stop i H ∧ D.nx σ H) ∨ (J.go i H ∧ ∃ N : L2.St → Hp → Prop, (∀ σ' H', N σ' H' → ∃ m', m' < m ∧ W (i + 1) m' σ' H') ∧ ∀ x H', J.yld i H x H' → liftG K A ws g x σ H' fun σ2 H2 => liftS K A j body { D with nx := N, ct := N, bk := D.nx } σ2 H2) := by
  obtain ⟨Gd, Y, w, hG, hY⟩ := wd
  refine for_it w (fun i σ' H' => ∃ G' ρi, StF K A j { B with G := G1 } σ' G' H' ρi ∧ forGo g body (ds.drop i) ρi = .ok (o, ρ')) ⟨G1, ρ1, s1.rebase, e⟩ ?_ ?_ ?_
  · rintro i σ' H' _ ⟨G', ρi, s', _⟩
    exact hG G' H' (hΦ _ _ _ _ s')
  · rintro i x σ' H2 H3 hi ⟨G', ρi, s', e'⟩ y
    obtain ⟨G2, d, n0, hd, rx⟩ := hY i G' H2 x H3 hi (hΦ _ _ _ _ s') y
    have s2 := s'.step (s'.st.nx0 n0)
    rw [List.drop_eq_getElem_cons hi, (List.getElem?_eq_some_iff.mp hd).2] at e'
    obtain ⟨ρa, ob, ρb, ea, eb, ec⟩ := forGo_cons e'
    refine ⟨G2, ρi, d, ρa, s2.st, rx, ea, fun σ3 st3 ow3 _ _ => ⟨{ B with G := G1 }, G2, ρa, ob, ρb, ⟨st3, s2.ext, fun i p z => s2.own i p (ow3 i p z)⟩, eb, ?_⟩⟩
    rcases ec with ⟨hob, ec⟩ | ⟨rfl, rfl, rfl⟩ | ⟨r, rfl, rfl, rfl⟩
    · rcases hob with rfl | rfl
      · exact fun σ4 G4 H4 s4 => ⟨G4, ρb, s4, ec⟩
      · exact fun σ4 G4 H4 s4 => ⟨G4, ρb, s4, ec⟩
    · exact fun σ4 G4 H4 s4 => k σ4 G4 H4 (s1.unbase s4)
    · exact fun v σ4 G4 H4 s4 hr => k v σ4 G4 H4 (s1.unbase s4) hr
  · rintro σ' H' ⟨G', ρi, s', e'⟩
    rw [List.drop_length] at e'
    cases e'
    exact k σ' G' H' (s1.unbase s')
theorem for_use {it : Iv} {ws : List Nat} {g : Tg} {body : Sv} {D : Ends} (h : liftS K A j (sFor it g body) D σ H) : tFor (liftI K A it) (liftG K A ws g) (liftS K A j body) D σ H := by
  obtain ⟨B, G, ρ, o, ρ', s, e, k⟩ := h
  obtain ⟨⟨ds, ρ1⟩, e1, e⟩ := bind_ok e
  exact ⟨G, ρ, ds, ρ1, s.st, e1, fun J G1 H1 n wd => for_main (s.step n) wd (fun _ _ _ _ s' => ⟨s'.ext.gs, s'.st.sub⟩) e k⟩
theorem while_use {t : Ev} {body : Sv} {D : Ends} (h : liftS K A j (sWhile t body) D σ H) : tWhile (liftT K A t) (liftS K A j body) D σ H := by
  obtain ⟨B, G, ρ, o, ρ', s, e, k⟩ := h
  refine ⟨fun m σ' H' => ∃ G' ρm, StF K A j B σ' G' H' ρm ∧ whileGo t body m ρm = .ok (o, ρ'), ⟨fuel, G, ρ, s, e⟩, ?_⟩
  rintro m σ' H' ⟨G', ρm, s', e'⟩
  cases m with
  | zero => cases e'
  | succ m =>
    obtain ⟨⟨x, ρ1⟩, e1, e'⟩ := bind_ok (show (val t ρm >>= fun y => isB y.1 >>= fun c => if c then body y.2 >>= fun z => (match z.1 with | .nx => whileGo t body m z.2 | .ct => whileGo t body m z.2 | .bk => .ok (.nx, z.2) | .rt r => .ok (.rt r, z.2)) else .ok (.nx, y.2)) = .ok (o, ρ') from e')
    obtain ⟨c, e2, e'⟩ := bind_ok e'
    cases isB_ok e2
    refine ⟨G', ρm, c, ρ1, s'.st, e1, fun G1 H1 n => ?_⟩
    have s1 := s'.step n
    cases c with
    | false =>
      cases e'
      exact iteF (k σ' G1 H1 s1)
    | true =>
      refine iteT ⟨fun σ2 H2 => ∃ m', m' < m + 1 ∧ ∃ G2 ρ2, StF K A j B σ2 G2 H2 ρ2 ∧ whileGo t body m' ρ2 = .ok (o, ρ'), fun _ _ z => z, ?_⟩
      obtain ⟨⟨ob, ρb⟩, e3, e'⟩ := bind_ok (show (body ρ1 >>= fun z => (match z.1 with | .nx => whileGo t body m z.2 | .ct => whileGo t body m z.2 | .bk => .ok (.nx, z.2) | .rt r => .ok (.rt r, z.2))) = .ok (o, ρ') from e')
      refine ⟨B, G1, ρ1, ob, ρb, s1, e3, ?_⟩
      cases ob with
      | nx => exact fun σ4 G4 H4 s4 => ⟨m, Nat.lt_succ_self m, G4, ρb, s4, e'⟩
      | ct => exact fun σ4 G4 H4 s4 => ⟨m, Nat.lt_succ_self m, G4, ρb, s4, e'⟩
      | bk => cases e'; exact fun σ4 G4 H4 s4 => k σ4 G4 H4 s4
      | rt r => cases e'; exact fun v σ4 G4 H4 s4 hr => k v σ4 G4 H4 s4 hr
end
section
variable {X : Cx} {A : CT} {j : Option Nat} {tg iter c : Expr} {body : List Stmt} {m : Sv} {mi : Iv} {g : Tg} {ws : List Nat} {mc : Ev} {pos : Pos}
theorem pds_for (hp : PassesOwn (model X.prog X.w) X.A X.env X.xe) (hc : X.calm = true) (hi : PDI A X tg iter mi) (hg : PG X tg (liftG X.K A ws g)) (hb : PDSs A j X body m)
    (hs : ∀ x, foldedSetIterable iter X.env x = pure x := by intro _; rfl) : PDS A j X (.For tg iter body [] pos) (sFor mi g m) := PS.imp (ps_for hp hc hi hg hb hs) fun D σ H => for_use
theorem pds_while (hp : PassesOwn (model X.prog X.w) X.A X.env X.xe) (hc : PDT A X c mc) (hb : PDSs A j X body m) : PDS A j X (.While c body [] pos) (sWhile mc m) := PS.imp (ps_while hp hc hb) fun D σ H => while_use
end
end DY

set_option Elab.async false
set_option linter.all false
set_option maxRecDepth 100000
set_option maxHeartbeats 4000000
/-! ### comprehensions -/
namespace DY
open PySem L2 PySem.Spec PyProof.Rows
variable [Tb]
section
variable {K : PySem.W.Frag} {A : CT} {G G' G1 G2 H H' H1 H2 : Hp} {σ σ' σ2 : L2.St} {ρ ρ1 ρ2 ρ' : Env}
theorem St.un1 {i : Nat} (s : St K A σ G H ρ) : St K A (σ.set i none) G H (ρ.set i .un) ∧ ∀ k p, Own (σ.set i none) (ρ.set i .un) k p → Own σ ρ k p := by
  have ow : ∀ k p, Own (σ.set i none) (ρ.set i .un) k p → Own σ ρ k p := fun k p ⟨⟨d, h1⟩, h2⟩ => by
    by_cases e : i = k
    · subst e
      rw [List.getElem?_set_self'] at h1
      cases q : ρ[i]? with
      | none => rw [q] at h1; cases h1
      | some x => rw [q] at h1; cases (Option.some.inj h1)
    · rw [List.getElem?_set_ne e] at h1 h2
      exact ⟨⟨d, h1⟩, h2⟩
  refine ⟨⟨s.sub, by rw [List.length_set, List.length_set]; exact s.len, fun k z hz => ?_, fun a b p ha hb => s.dist a b p (ow a p ha) (ow b p hb)⟩, ow⟩
  by_cases e : i = k
  · subst e
    rw [List.getElem?_set_self'] at hz
    cases q : ρ[i]? with
    | none => rw [q] at hz; cases hz
    | some x => rw [q] at hz; cases (Option.some.inj hz); trivial
  · rw [List.getElem?_set_ne e] at hz
    have := s.slot k z hz
    rw [List.getD_eq_getElem?_getD, List.getElem?_set_ne e, ← List.getD_eq_getElem?_getD]
    exact this
theorem St.wipe : ∀ (vs : List Nat) {σ : L2.St} {ρ : Env}, St K A σ G H ρ → St K A (L2.wipe σ vs) G H (wipeS ρ vs) ∧ ∀ k p, Own (L2.wipe σ vs) (wipeS ρ vs) k p → Own σ ρ k p
  | [], _, _, s => ⟨s, fun _ _ z => z⟩
  | v :: vs, σ, ρ, s => by
    obtain ⟨s1, o1⟩ := St.wipe vs s
    obtain ⟨s2, o2⟩ := s1.un1 (i := v)
    exact ⟨s2, fun k p z => o1 k p (o2 k p z)⟩
theorem wipe_out : ∀ {vs : List Nat} {k : Nat}, k ∉ vs → (L2.wipe σ vs)[k]? = σ[k]?
  | [], _, _ => rfl
  | v :: vs, k, h => by
    show ((L2.wipe σ vs).set v none)[k]? = _
    rw [List.getElem?_set_ne fun z => h (by simp [z])]
    exact wipe_out fun z => h (List.mem_cons_of_mem _ z)
theorem wipe_in : ∀ {vs : List Nat} {k : Nat}, k ∈ vs → k < σ.length → (L2.wipe σ vs)[k]? = some none
  | v :: vs, k, h, hk => by
    show ((L2.wipe σ vs).set v none)[k]? = _
    by_cases e : v = k
    · subst e; rw [List.getElem?_set_self (by rw [wipe_length]; exact hk)]
    · rw [List.getElem?_set_ne e]
      exact wipe_in ((List.mem_cons.mp h).resolve_left fun z => e z.symm) hk
theorem wipeS_len : ∀ {vs : List Nat}, (wipeS ρ vs).length = ρ.length
  | [] => rfl
  | v :: vs => by show ((wipeS ρ vs).set v .un).length = _; rw [List.length_set, wipeS_len]
theorem wipeS_out : ∀ {vs : List Nat} {k : Nat}, k ∉ vs → (wipeS ρ vs)[k]? = ρ[k]?
  | [], _, _ => rfl
  | v :: vs, k, h => by
    show ((wipeS ρ vs).set v .un)[k]? = _
    rw [List.getElem?_set_ne fun z => h (by simp [z])]
    exact wipeS_out fun z => h (List.mem_cons_of_mem _ z)
theorem backS_len : ∀ {vs : List Nat}, (backS ρ1 ρ vs).length = ρ.length
  | [] => rfl
  | v :: vs => by show ((backS ρ1 ρ vs).set v _).length = _; rw [List.length_set, backS_len]
theorem backS_out : ∀ {vs : List Nat} {k : Nat}, k ∉ vs → (backS ρ1 ρ vs)[k]? = ρ[k]?
  | [], _, _ => rfl
  | v :: vs, k, h => by
    show ((backS ρ1 ρ vs).set v _)[k]? = _
    rw [List.getElem?_set_ne fun z => h (by simp [z])]
    exact backS_out fun z => h (List.mem_cons_of_mem _ z)
theorem backS_in : ∀ {vs : List Nat} {k : Nat} {z : Slot}, k ∈ vs → (backS ρ1 ρ vs)[k]? = some z → z = ρ1.getD k .un
  | v :: vs, k, z, h, hz => by
    have hz : ((backS ρ1 ρ vs).set v (ρ1.getD v .un))[k]? = some z := hz
    by_cases e : v = k
    · subst e
      rw [List.getElem?_set_self'] at hz
      cases q : (backS ρ1 ρ vs)[v]? with
      | none => rw [q] at hz; cases hz
      | some x => rw [q] at hz; exact (Option.some.inj hz).symm
    · rw [List.getElem?_set_ne e] at hz
      exact backS_in ((List.mem_cons.mp h).resolve_left fun z => e z.symm) hz
theorem wipe_eq {vs : List Nat} (hl : σ2.length = σ.length) (h : ∀ i, i ∉ vs → σ2[i]? = (L2.wipe σ vs)[i]?) : L2.wipe σ2 vs = L2.wipe σ vs := by
  refine List.ext_getElem? fun k => ?_
  by_cases e : k ∈ vs
  · by_cases hk : k < σ.length
    · rw [wipe_in e (by rw [hl]; exact hk), wipe_in e hk]
    · rw [List.getElem?_eq_none (by rw [wipe_length, hl]; omega), List.getElem?_eq_none (by rw [wipe_length]; omega)]
  · rw [wipe_out e, h k e]
theorem noOw_ok {vs : List Nat} (h : noOw ρ vs = true) {k : Nat} (hk : k ∈ vs) : ∃ z, ρ[k]? = some z ∧ ∀ d, z ≠ .ow d := by
  have := List.all_eq_true.mp h k hk
  cases q : ρ[k]? with
  | none => rw [q] at this; cases this
  | some z =>
    rw [q] at this
    refine ⟨z, rfl, fun d e => ?_⟩
    subst e; cases this
/-- a pending new object -/
theorem pend {p : Addr} {d : D} (no : ¬ OwnS σ ρ p) (g : G p = none) (h : Has K A G H p d) (n : Nx K A σ G H ρ G' H' ρ') : G' p = none ∧ Has K A G' H' p d := by
  refine ⟨?_, h.mono n.gs fun o z nt => n.ext.hs p o z no nt⟩
  cases z : G' p with
  | none => rfl
  | some u =>
    rcases n.ext.fr p (by rw [z]; exact fun x => nomatch x) with z | z | z
    · exact absurd g z
    · obtain ⟨o, ho⟩ := h.ex; rw [ho] at z; cases z
    · exact absurd z no
theorem pend0 {p : Addr} {d : D} (g : G p = none) (h : Has K A G H p d) (n : Nx0 G H G' H') : G' p = none ∧ Has K A G' H' p d := by
  refine ⟨?_, h.mono n.ext.gs fun o z nt => n.ext.hs p o z id nt⟩
  cases z : G' p with
  | none => rfl
  | some u =>
    rcases n.ext.fr p (by rw [z]; exact fun x => nomatch x) with z | z | z
    · exact absurd g z
    · obtain ⟨o, ho⟩ := h.ex; rw [ho] at z; cases z
    · exact z.elim
theorem St.updP {p : Addr} {o : HO} (s : St K A σ G H ρ) (g : G p = none) (no : ¬ OwnS σ ρ p) (tb : LamX.Tabs Tb.T (upd H p o)) : St K A σ G (upd H p o) ρ := by
  refine ⟨⟨fun q u z => ?_, tb, s.sub.nt, s.sub.bs⟩, s.len, fun k z hz => ?_, s.dist⟩
  · have ne : q ≠ p := fun e => by subst e; rw [g] at z; cases z
    rw [upd_ne ne]; exact s.sub q u z
  · have q := s.slot k z hz
    cases z with
    | un => trivial
    | sh d => exact q
    | ow d =>
      obtain ⟨p2, e1, n1, h1⟩ := q
      have ne : p2 ≠ p := fun z => no ⟨k, ⟨d, hz⟩, z ▸ getD_some e1⟩
      exact ⟨p2, e1, n1, h1.mono (fun _ _ z => z) fun u z _ => by rw [upd_ne ne]; exact z⟩
variable (K A) in
/-- while a comprehension runs: its new object stands at P and bears d -/
structure LI (σ : L2.St) (G1 H1 : Hp) (ρ1 : Env) (vs : List Nat) (P : Addr) (G H : Hp) (ρi : Env) (d : D) : Prop where
  ext : Ext (OwnS σ ρ1) G1 H1 G H
  st : St K A (L2.wipe σ vs) G H (wipeS ρi vs)
  own : ∀ k p, Own (L2.wipe σ vs) (wipeS ρi vs) k p → Own σ ρ1 k p
  gP : G P = none
  hP : Has K A G H P d
variable {vs : List Nat} {P : Addr} {d : D} {ρi : Env}
theorem LI.no (l : LI K A σ G1 H1 ρ1 vs P G H ρi d) (s1 : St K A σ G1 H1 ρ1) (hP : H1 P = none) : ∀ k, ¬ Own σ ρ1 k P := fun k z => OwnS.there s1 ⟨k, z⟩ hP
/-- one turn: target, test, element; o is the new object -/
theorem LI.turn {ρa ρb : Env} {G2 H2 G3 H3 : Hp} {d' : D} {o : HO} (l : LI K A σ G1 H1 ρ1 vs P G H ρi d) (s1 : St K A σ G1 H1 ρ1) (hP : H1 P = none) (n0 : Nx0 G H G2 H2) (hl : σ2.length = σ.length) (hw : ∀ i, i ∉ vs → σ2[i]? = (L2.wipe σ vs)[i]?)
    (ow : ∀ k p, Own σ2 ρa k p → Own (L2.wipe σ vs) (wipeS ρi vs) k p) (n : Nx K A σ2 G2 H2 ρa G3 H3 ρb) (new : Has K A G3 (upd H3 P o) P d') : LI K A σ G1 H1 ρ1 vs P G3 (upd H3 P o) ρb d' := by
  have noP : ¬ OwnS σ2 ρa P := fun ⟨k, z⟩ => l.no s1 hP k (l.own k P (ow k P z))
  have p2 := pend0 l.gP l.hP n0
  have p3 := pend noP p2.1 p2.2 n
  have noPb : ¬ OwnS σ2 ρb P := fun ⟨k, z⟩ => noP ⟨k, n.own k P z⟩
  have e1 := l.ext.trans n0.ext fun _ z => z.elim
  have e2 := e1.trans n.ext fun p ⟨k, z⟩ => .inl ⟨k, l.own k p (ow k p z)⟩
  obtain ⟨sw, ow2⟩ := St.wipe vs (n.st.updP (o := o) p3.1 noPb (by obtain ⟨o0, e0, n0⟩ := p3.2.nt; exact nT.up e0 n0 n.st.sub.tb))
  rw [wipe_eq hl hw] at sw ow2
  refine ⟨⟨e2.gs, e2.fr, fun q u z nn nt => ?_, fun q z => ?_⟩, sw, fun k p z => l.own k p (ow k p (n.own k p (ow2 k p z))), p3.1, new⟩
  · have ne : q ≠ P := ne_of_none z hP
    rw [upd_ne ne]; exact e2.hs q u z nn nt
  · by_cases e : q = P
    · subst e; rw [upd_same]; exact fun x => nomatch x
    · rw [upd_ne e]; exact e2.there q z
theorem LI.skip {ρa ρb : Env} {G2 H2 G3 H3 : Hp} (l : LI K A σ G1 H1 ρ1 vs P G H ρi d) (s1 : St K A σ G1 H1 ρ1) (hP : H1 P = none) (n0 : Nx0 G H G2 H2) (hl : σ2.length = σ.length) (hw : ∀ i, i ∉ vs → σ2[i]? = (L2.wipe σ vs)[i]?)
    (ow : ∀ k p, Own σ2 ρa k p → Own (L2.wipe σ vs) (wipeS ρi vs) k p) (n : Nx K A σ2 G2 H2 ρa G3 H3 ρb) : LI K A σ G1 H1 ρ1 vs P G3 H3 ρb d := by
  have noP : ¬ OwnS σ2 ρa P := fun ⟨k, z⟩ => l.no s1 hP k (l.own k P (ow k P z))
  have p2 := pend0 l.gP l.hP n0
  have p3 := pend noP p2.1 p2.2 n
  have e1 := l.ext.trans n0.ext fun _ z => z.elim
  have e2 := e1.trans n.ext fun p ⟨k, z⟩ => .inl ⟨k, l.own k p (ow k p z)⟩
  obtain ⟨sw, ow2⟩ := St.wipe vs n.st
  rw [wipe_eq hl hw] at sw ow2
  exact ⟨e2, sw, fun k p z => l.own k p (ow k p (n.own k p (ow2 k p z))), p3.1, p3.2⟩
theorem LI.begin {o : HO} (s1 : St K A σ G1 H1 ρ1) (hP : H1 P = none) (new : Has K A G1 (upd H1 P o) P d) : LI K A σ G1 H1 ρ1 vs P G1 (upd H1 P o) ρ1 d := by
  have gP := (upd_nx0 (o := o) s1.sub hP).2
  obtain ⟨sw, ow⟩ := St.wipe vs (s1.updP (o := o) gP (fun z => OwnS.there s1 z hP) (nT.new hP s1.sub.tb))
  refine ⟨⟨fun _ _ z => z, fun _ z => .inl z, fun q u z _ _ => by rw [upd_ne (ne_of_none z hP)]; exact z, fun q z => ?_⟩, sw, ow, gP, new⟩
  by_cases e : q = P
  · subst e; rw [upd_same]; exact fun x => nomatch x
  · rw [upd_ne e]; exact z
theorem LI.done (l : LI K A σ G1 H1 ρ1 vs P G H ρi d) (s1 : St K A σ G1 H1 ρ1) (hP : H1 P = none) (no : noOw ρ1 vs = true) (n1 : Nx K A σ G' H' ρ' G1 H1 ρ1) : Nx K A σ G' H' ρ' G H (backS ρ1 ρi vs) ∧ RepR K A (OwnS σ (backS ρ1 ρi vs)) H' G H (.ref P) (d, true) := by
  have hlen : (wipeS ρi vs).length = σ.length := by have := l.st.len; rw [wipe_length] at this; exact this.symm
  have inn : ∀ k ∈ vs, ∀ z, (backS ρ1 ρi vs)[k]? = some z → SlotOk K A G H (σ.getD k none) z ∧ ∀ d, z ≠ .ow d := fun k hk z hz => by
    obtain ⟨y, h1, h2⟩ := noOw_ok no hk
    have e := backS_in hk hz
    rw [List.getD_eq_getElem?_getD, h1] at e
    have e : z = y := e
    subst e
    refine ⟨?_, h2⟩
    have q := s1.slot k z h1
    cases z with
    | un => trivial
    | sh d => obtain ⟨v, a, b⟩ := q; exact ⟨v, a, b.mono l.ext.gs⟩
    | ow d => exact absurd rfl (h2 d)
  have out : ∀ k, k ∉ vs → ∀ p, Own σ (backS ρ1 ρi vs) k p → Own (L2.wipe σ vs) (wipeS ρi vs) k p := fun k hk p ⟨⟨d, h1⟩, h2⟩ => by
    rw [backS_out hk] at h1
    exact ⟨⟨d, by rw [wipeS_out hk]; exact h1⟩, by rw [wipe_out hk]; exact h2⟩
  have ow : ∀ k p, Own σ (backS ρ1 ρi vs) k p → Own (L2.wipe σ vs) (wipeS ρi vs) k p := fun k p z => by
    by_cases hk : k ∈ vs
    · obtain ⟨⟨d, h1⟩, _⟩ := z
      exact absurd rfl ((inn k hk _ h1).2 d)
    · exact out k hk p z
  have st : St K A σ G H (backS ρ1 ρi vs) := by
    refine ⟨l.st.sub, by rw [backS_len, ← wipeS_len (vs := vs)]; exact hlen.symm, fun k z hz => ?_, fun a b p ha hb => l.st.dist a b p (ow a p ha) (ow b p hb)⟩
    by_cases hk : k ∈ vs
    · exact (inn k hk z hz).1
    · rw [backS_out hk] at hz
      have := l.st.slot k z (by rw [wipeS_out hk]; exact hz)
      rw [List.getD_eq_getElem?_getD, wipe_out hk, ← List.getD_eq_getElem?_getD] at this
      exact this
  have nn : Nx K A σ G1 H1 ρ1 G H (backS ρ1 ρi vs) := ⟨l.ext, st, fun k p z => l.own k p (ow k p z)⟩
  refine ⟨n1.trans nn, later n1 (RepR.new l.gP l.hP (fun ⟨k, z⟩ => l.no s1 hP k (l.own k P (ow k P z))) hP)⟩
variable (K A) in
def liftC : Option Ev → TT
  | none => tYes
  | some m => liftT K A m
theorem cond_use {c : Option Ev} {b : Bool} {RR : Bool → Hp → Prop} (s : St K A σ G H ρ) (e : cond c ρ = .ok (b, ρ')) (k : ∀ G' H', Nx K A σ G H ρ G' H' ρ' → RR b H') : liftC K A c σ H RR := by
  cases c with
  | none => cases e; exact k G H (Nx.refl s)
  | some t =>
    obtain ⟨⟨x, ρ2⟩, e1, e⟩ := bind_ok e
    obtain ⟨b', e2, e⟩ := bind_ok e
    cases e
    obtain rfl := isB_ok e2
    exact ⟨G, ρ, b, _, s, e1, k⟩
theorem lcGo_cons {g : Tg} {c : Option Ev} {e : Ev} {ds acc accE : List D} {x : D} {ρE : Env} (h : lcGo g c e vs (x :: ds) acc ρ = .ok (accE, ρE)) : ∃ ρa b ρb, g x (wipeS ρ vs) = .ok ρa ∧ cond c ρa = .ok (b, ρb) ∧
    ((b = true ∧ ∃ y ρc, val e ρb = .ok (y, ρc) ∧ lcGo g c e vs ds (acc ++ [y]) ρc = .ok (accE, ρE)) ∨ (b = false ∧ lcGo g c e vs ds acc ρb = .ok (accE, ρE))) := by
  obtain ⟨ρa, e1, h⟩ := bind_ok h
  obtain ⟨⟨b, ρb⟩, e2, h⟩ := bind_ok h
  refine ⟨ρa, b, ρb, e1, e2, ?_⟩
  cases b with
  | true =>
    obtain ⟨⟨y, ρc⟩, e3, h⟩ := bind_ok (show (val e ρb >>= fun z => lcGo g c e vs ds (acc ++ [z.1]) z.2) = .ok (accE, ρE) from h)
    exact .inl ⟨rfl, y, ρc, e3, h⟩
  | false => exact .inr ⟨rfl, h⟩
theorem lc_main {Φ : Hp → Hp → Prop} {J : It} {ds accE : List D} {ρE : Env} {ws : List Nat} {g : Tg} {c : Option Ev} {e : Ev} {Q : VK} (hws : ∀ i ∈ ws, i ∈ vs) (s1 : St K A σ G1 H1 ρ1) (wd : WalkD K A Φ J ds) (hΦ : ∀ G H, Ext (OwnS σ ρ1) G1 H1 G H → Sub G H → Φ G H) (hno : noOw ρ1 vs = true) (hlen : ds.length ≤ 1000) (e2 : lcGo g c e vs ds [] ρ1 = .ok (accE, ρE))
    (k : ∀ v G' H', Nx K A σ G1 H1 ρ1 G' H' (backS ρ1 ρE vs) → RepR K A (OwnS σ (backS ρ1 ρE vs)) H1 G' H' v (.lst accE, true) → Q v H') :
    ∀ D, H1 D = none → ∃ W : Nat → Nat → Hp → Prop, (∃ m, W 0 m (upd H1 D (.lst []))) ∧ ∀ i m H, W i m H →
      (J.stop i H ∧ Q (.ref D) H) ∨ (J.go i H ∧ ∃ Nx : Hp → Prop, (∀ H', Nx H' → ∃ m', m' < m ∧ W (i + 1) m' H') ∧ ∀ x H', J.yld i H x H' → liftG K A ws g x (L2.wipe σ vs) H' fun σ2 H2 => L2.wipe σ2 vs = L2.wipe σ vs ∧ liftC K A c σ2 H2 fun b H3 =>
        if b = true then liftE K A e σ2 H3 fun y H4 => ∃ acc, H4 D = some (.lst acc) ∧ acc.length < sizeLine ∧ Nx (upd H4 D (.lst (acc ++ [y]))) else Nx H3) := by
  intro P hP
  obtain ⟨Gd, Y, w, hG, hY⟩ := wd
  refine lc_it w (Qd := fun H => Q (.ref P) H) (fun i H' => ∃ G' ρi acc, LI K A σ G1 H1 ρ1 vs P G' H' ρi (.lst acc) ∧ acc.length ≤ i ∧ lcGo g c e vs (ds.drop i) acc ρi = .ok (accE, ρE)) ⟨G1, ρ1, [], LI.begin s1 hP ⟨[], upd_same, .nil⟩, Nat.le_refl _, e2⟩ ?_ ?_ ?_
  · rintro i H' _ ⟨G', ρi, acc, l, _⟩
    exact hG G' H' (hΦ _ _ l.ext l.st.sub)
  · rintro i x H2 H3 hi ⟨G2, ρi, acc, l, hl, e2⟩ y
    obtain ⟨G3, d, n0, hd, rx⟩ := hY i G2 H2 x H3 hi (hΦ _ _ l.ext l.st.sub) y
    rw [List.drop_eq_getElem_cons hi, (List.getElem?_eq_some_iff.mp hd).2] at e2
    obtain ⟨ρa, b, ρb, ea, eb, ec⟩ := lcGo_cons e2
    refine ⟨G3, wipeS ρi vs, d, ρa, (l.st.nx0 n0).st, rx, ea, fun σ2 st2 ow2 hl2 hw2 => ?_⟩
    have hl2' : σ2.length = σ.length := by rw [hl2, wipe_length]
    have hw2' : ∀ i, i ∉ vs → σ2[i]? = (L2.wipe σ vs)[i]? := fun i hi => hw2 i fun z => hi (hws i z)
    refine ⟨wipe_eq hl2' hw2', cond_use st2 eb fun G4 H4 n4 => ?_⟩
    rcases ec with ⟨rfl, yv, ρc, ey, ec⟩ | ⟨rfl, ec⟩
    · refine iteT (use_val n4.st ey fun v G5 H5 n5 r5 => ?_)
      have n45 := n4.trans n5
      have noP : ¬ OwnS σ2 ρa P := fun ⟨k, z⟩ => l.no s1 hP k (l.own k P (ow2 k P z))
      have p3 := pend0 l.gP l.hP n0
      obtain ⟨gP, avs, hv, ra⟩ := pend noP p3.1 p3.2 n45
      exact ⟨avs, hv, small1000 (by rw [ra.len]; omega), G5, ρc, acc ++ [yv], l.turn s1 hP n0 hl2' hw2' ow2 n45 ⟨_, upd_same, ra.append (.cons r5 .nil)⟩, by rw [List.length_append]; exact Nat.succ_le_succ hl, ec⟩
    · exact iteF ⟨G4, ρb, acc, l.skip s1 hP n0 hl2' hw2' ow2 n4, Nat.le_succ_of_le hl, ec⟩
  · rintro H2 ⟨G2, ρi, acc, l, _, e2⟩
    rw [List.drop_length] at e2
    cases e2
    obtain ⟨nn, rr⟩ := l.done s1 hP hno (Nx.refl s1)
    exact k _ G2 H2 nn rr
theorem eLc_ok {it : Iv} {g : Tg} {c : Option Ev} {e : Ev} {r : Rv} (h : eLc it g c e vs ρ = .ok (r, ρ')) : ∃ ds ρ1 accE ρE, it ρ = .ok (ds, ρ1) ∧ noOw ρ1 vs = true ∧ ds.length ≤ 1000 ∧ lcGo g c e vs ds [] ρ1 = .ok (accE, ρE) ∧ r = (.lst accE, true) ∧ ρ' = backS ρ1 ρE vs := by
  obtain ⟨⟨ds, ρ1⟩, e1, h⟩ := bind_ok h
  dsimp only at h
  split at h
  · rename_i hno
    rw [Bool.and_eq_true] at hno
    obtain ⟨⟨accE, ρE⟩, e2, h⟩ := bind_ok h
    cases h
    exact ⟨ds, ρ1, accE, ρE, e1, hno.1, of_decide_eq_true hno.2, e2, rfl, rfl⟩
  · cases h
theorem lc_use {it : Iv} {ws : List Nat} {g : Tg} {c : Option Ev} {e : Ev} {Q : VK} (hws : ∀ i ∈ ws, i ∈ vs) (h : liftE K A (eLc it g c e vs) σ H Q) : tLc (liftI K A it) (liftG K A ws g) (liftC K A c) (liftE K A e) vs σ H Q := by
  obtain ⟨G, ρ, r, ρ', s, e0, k⟩ := h
  obtain ⟨ds, ρ1, accE, ρE, e1, hno, hlen, e2, rfl, rfl⟩ := eLc_ok e0
  exact ⟨G, ρ, ds, ρ1, s, e1, fun J G1 H1 n1 wd => lc_main hws n1.st wd (fun _ _ x y => ⟨x.gs, y⟩) hno hlen e2 fun v G' H' nn rr => k v G' H' (n1.trans nn) (later n1 rr)⟩
/-! ### the keys of a dict -/
/-! for over the keys -/
end
section
variable {X : Cx} {A : CT}
theorem pdts_nil : PTs X [] (liftC X.K A none) := pts_nil
theorem pdts_one {c : Expr} {m : Ev} (h : PDT A X c m) : PTs X [c] (liftC X.K A (some m)) := pts_one h
theorem pd_lc {e : Expr} {it : Iv} {vs ws : List Nat} {g : Tg} {c : Option Ev} {m : Ev} (hws : ∀ i ∈ ws, i ∈ vs) (h : PE X e (tLc (liftI X.K A it) (liftG X.K A ws g) (liftC X.K A c) (liftE X.K A m) vs)) : PD A X e (eLc it g c m vs) := PE.imp h fun _ _ _ => lc_use hws
end
end DY

set_option Elab.async false
set_option linter.all false
set_option maxRecDepth 100000
set_option maxHeartbeats 4000000
namespace DY
open PySem L2 PySem.Spec PyProof.Rows
variable [Tb]
/-- a value that no unfolding opens -/
noncomputable def shut {α : Type} (a : α) : α := (Classical.choice (⟨⟨a, rfl⟩⟩ : Nonempty {x : α // x = a})).1
theorem shut_eq {α : Type} (a : α) : shut a = a := (Classical.choice (⟨⟨a, rfl⟩⟩ : Nonempty {x : α // x = a})).2
/-! ### what the printer names -/
theorem mkFn_len {n p : Nat} {body : Sv} : ∀ ds r, mkFn n p body ds = .ok r → ds.length = p := fun ds r h => by
  unfold mkFn at h
  split at h
  · assumption
  · cases h
theorem mkFnR_len {n p j : Nat} {body : Sv} : ∀ ds d r, mkFnR n p j body ds d = .ok r → ds.length + 1 = p := fun ds d r h => by
  unfold mkFnR at h
  split at h
  · rename_i q; exact q.1
  · cases h
theorem u65 {k : Nat} {A : Around} (r : Room k A) : A.units + 65 < cLine := by have := r.un; omega
/-- values in the parameters' order -/
def prm {α : Type} (is : List Nat) (xs zs : List α) : List α := xs ++ is.filterMap (fun i => zs[i]?)
theorem prm_gv (is : List Nat) : GV (prm is) (prm is) := by
  refine ⟨fun {K A G vs zs ds es} h1 h2 => h1.append ?_⟩
  induction is with
  | nil => exact .nil
  | cons i is ih =>
    rw [List.filterMap_cons, List.filterMap_cons]
    cases e : zs[i]? with
    | none =>
      have : es[i]? = none := by
        rw [List.getElem?_eq_none_iff] at e ⊢
        rw [← h2.len]; exact e
      rw [this]; exact ih
    | some v =>
      obtain ⟨d, e2, r⟩ := h2.get e
      rw [e2]; exact .cons r ih
theorem vals_prm (is : List Nat) {vs zs : List V} {us ws : List Value} (h1 : Vals vs us) (h2 : Vals zs ws) : Vals (prm is vs zs) (prm is us ws) := by
  refine h1.append ?_
  induction is with
  | nil => exact .nil
  | cons i is ih =>
    rw [List.filterMap_cons, List.filterMap_cons]
    have key : ∀ {zs : List V} {ws : List Value}, Vals zs ws → ∀ i : Nat, (zs[i]? = none ∧ ws[i]? = none) ∨ ∃ v u, zs[i]? = some v ∧ ws[i]? = some u ∧ Vals [v] [u] := fun {zs ws} h => by
      induction h with
      | nil => intro i; exact .inl ⟨by simp, by simp⟩
      | cons a b ih =>
        intro i
        cases i with
        | zero => exact .inr ⟨_, _, rfl, rfl, .cons a .nil⟩
        | succ i => simpa using ih i
    rcases key h2 i with ⟨e1, e2⟩ | ⟨v, u, e1, e2, q⟩
    · rw [e1, e2]; exact ih
    · rw [e1, e2]
      exact Vals.append q ih
section
variable {K : PySem.W.Frag} {X : Cx} {A : CT} {pos pos' apos : Pos} {n : Nat} {a e f : Expr} {es : List Expr} {ma me mf : Ev} {ms : List Ev} {m : Str} {E : XK}
/-! ### {} -/
def eC0 (d : D) : Ev := fun ρ => .ok ((d, true), ρ)
/-! ### f'..' -/
def fmtD : D → R Rv
  | .str s => if s.length ≤ 100000 then str_ s else .no
  | .int i => if i.natAbs.log2 < 1920 then str_ (figs i) else .no
  | _ => .no
def fcat (ds : List D) : R Rv := do
  let ss ← strsOf ds
  if (ss.map (·.length)).sum ≤ 100000 then str_ ss.flatten else .no
theorem pd_fmt (h : PD A X e me) : PD A X (.FormattedValue e (-1) none pos) (eUn fmtD me) := PE.imp (pe_fmt h) fun σ H Q q => by
  obtain ⟨G, ρ, r, ρ', s, e, k⟩ := q
  obtain ⟨⟨d, ρ1⟩, e1, e⟩ := bind_ok e
  obtain ⟨r', e2, e⟩ := bind_ok e
  cases e
  refine use_val s e1 fun v G1 H1 n1 r1 => ?_
  unfold fmtD at e2
  split at e2
  · split at e2
    · rename_i l hl
      cases r1
      cases e2
      exact .inl ⟨_, rfl, by rw [S_len]; exact Nat.le_trans hl (by decide), k _ G1 H1 n1 (RepR.of (.str _))⟩
    · cases e2
  · split at e2
    · rename_i hl
      cases r1
      cases e2
      exact .inr ⟨_, rfl, hl, by rw [figs_eq]; exact k _ G1 H1 n1 (RepR.of (.str _))⟩
    · cases e2
  · cases e2
theorem pd_joined1 (h : PD A X e me) : PD A X (.JoinedStr [e] pos) me := pe_joined1 h
theorem pdj_nil : PJ X [] ([].map (liftE X.K A)) := .nil
theorem pdj_cons (h : PD A X e me) (r : PJ X es (ms.map (liftE X.K A))) : PJ X (e :: es) ((me :: ms).map (liftE X.K A)) := .cons h r
theorem tjs_use {σ : L2.St} {R : Str → Hp → Prop} : ∀ (ms : List Ev) (acc : List Nat) (G H : Hp) (ρ ρ' : Env) (ds : List D) (ss : List (List Nat)), St K A σ G H ρ → evs ms ρ = .ok (ds, ρ') → strsOf ds = .ok ss → acc.length + (ss.map (·.length)).sum ≤ 100000 →
    (∀ G' H', Nx K A σ G H ρ G' H' ρ' → R (S (acc ++ ss.flatten)) H') → tJs (ms.map (liftE K A)) (S acc) σ H R
  | [], acc, G, H, ρ, ρ', ds, ss, s, e, e2, hl, k => by
    cases e
    cases e2
    have := k G H (Nx.refl s)
    show R (S acc) H
    simpa using this
  | m :: ms, acc, G, H, ρ, ρ', ds, ss, s, e, e2, hl, k => by
    obtain ⟨⟨d, ρ0⟩, e0, e⟩ := bind_ok e
    obtain ⟨⟨ds', ρ1⟩, e1, e⟩ := bind_ok e
    cases e
    unfold strsOf at e2
    split at e2
    · rename_i hh; cases hh
    · rename_i b ds2 hh
      cases hh
      obtain ⟨bs, e3, e2⟩ := bind_ok e2
      cases e2
      refine use_val s e0 fun v G1 H1 n1 r1 => ?_
      cases r1
      rw [List.map_cons, List.sum_cons] at hl
      refine ⟨_, rfl, ?_, ?_⟩
      · rw [S_app, S_len, List.length_append]
        exact Nat.le_trans (show acc.length + b.length ≤ 100000 by omega) (by decide)
      · rw [S_app]
        refine tjs_use ms _ G1 H1 _ _ _ _ n1.st e1 e3 (by rw [List.length_append]; omega) fun G' H' n2 => ?_
        have := k G' H' (n1.trans n2)
        rw [List.flatten_cons, ← List.append_assoc] at this
        exact this
    · cases e2
theorem pd_joined {v1 v2 : Expr} {rest : List Expr} (h : PJ X (v1 :: v2 :: rest) (ms.map (liftE X.K A))) : PD A X (.JoinedStr (v1 :: v2 :: rest) pos) (eN fcat ms) := PE.imp (pe_joined h) fun σ H Q q => by
  obtain ⟨G, ρ, r, ρ', s, e, k⟩ := q
  obtain ⟨⟨ds, ρ1⟩, e1, e⟩ := bind_ok e
  obtain ⟨r', e2, e⟩ := bind_ok e
  cases e
  obtain ⟨ss, e3, e2⟩ := bind_ok e2
  split at e2
  · rename_i hl
    cases e2
    refine tjs_use ms [] G H ρ _ ds ss s e1 e3 (by simpa using hl) fun G' H' n => ?_
    exact k _ G' H' n (RepR.of (.str _))
  · cases e2
end
/-! ### the law -/
/-- the script stands for a frozen list -/
theorem rep_script {K : PySem.W.Frag} {A : CT} {H : Hp} {p : Addr} {ns : List Int} (h : SqL K H p (ns.map V.int)) : Rep K A H (.ref p) (.fls (ns.map D.int)) := by
  refine .fls h ?_
  clear h
  induction ns with
  | nil => exact .nil
  | cons n ns ih => exact .cons (.int n) ih
theorem sqL_noTb {K : PySem.W.Frag} {H : Hp} {p : Addr} {vs : List V} (h : SqL K H p vs) : SqL K (noTb H) p vs := by
  rcases h with (h | ⟨o, h⟩) | h
  · exact .inl (.inl (noTb_ok h fun _ z => nomatch z))
  · exact .inl (.inr ⟨o, noTb_ok h fun _ z => nomatch z⟩)
  · exact .inr h
/-- the classes' attributes in the order of their writing -/
def nmsOf : Nat → List Str
  | 0 => ["top", "bottom"]
  | 1 => ["constant", "terms", "names"]
  | 2 => ["parts", "ties", "hooks", "strings", "names", "ways"]
  | 3 => ["puppet", "moves", "begin"]
  | 4 => ["script", "kept", "stages"]
  | 5 => ["form"]
  | 6 => ["names", "forms", "conditions", "known"]
  | 9 => ["columns", "basics", "rows", "scale"]
  | 7 => ["script", "wish", "overs", "reached", "taken", "truths", "gathered"]
  | 21 | 22 | 23 | 24 | 28 | 30 | 31 | 33 | 34 | 35 | 38 | 39 | 40 | 41 | 42 | 43 | 45 | 46 | 47 => ["value"]
  | 25 | 26 | 27 | 29 | 32 | 36 | 37 | 48 => ["index"]
  | 49 | 50 => ["given"]
  | 51 => ["weights"]
  | 57 => ["limit"]
  | _ => []
theorem nms_nd (c : Nat) : (nmsOf c).Nodup := by
  unfold nmsOf
  split <;> decide +kernel
def sp_law (K : PySem.W.Frag) : Sp := fun vs H Q _ => ∃ (p : Addr) (ns : List Int), vs = [.ref p] ∧ SqL K H p (ns.map V.int) ∧ ns.length ≤ 63 ∧ LamX.Tabs Tb.T H ∧ ∀ H', Q (.bl true) H'
theorem sp_of {K : PySem.W.Frag} {A : CT} {F : Fn} (hb : ∀ p, Tb.base p = none) (ht : ∀ ns : List Int, ns.length ≤ 63 → F [.fls (ns.map D.int)] = .ok (.bl true, false)) {vs : List V} {H : Hp} {Q : VK} {E : XK} (h : sp_law K vs H Q E) : spF K A F 1 vs H Q E := by
  obtain ⟨p, ns, rfl, hp, hl, ht', k⟩ := h
  refine ⟨rfl, noTb H, _, _, Sub.start ht' hb, .cons (rep_script (sqL_noTb hp)) .nil, ht ns hl, fun v G' H' _ rn => ?_⟩
  cases (show Rep K A G' v (.bl true) from rn)
  exact k H'
end DY

set_option Elab.async false
set_option linter.all false
set_option maxRecDepth 100000
set_option maxHeartbeats 4000000
/-! ### enumerate over a tuple, a text -/
namespace DY
open PySem L2 PySem.Spec PyProof.Rows
variable [Tb]
/-! ### mirrors -/
def enumL : Nat → List D → List D
  | _, [] => []
  | n, d :: ds => .kt [.int (n : Nat), d] :: enumL (n + 1) ds
def iEn (e : Ev) : Iv := fun ρ => do
  let (x, ρ1) ← val e ρ
  let ds ← items x
  pure (enumL 0 ds, ρ1)
section
variable {K : PySem.W.Frag} {A : CT} {G G' : Hp} {X : Cx} {tg e : Expr} {me : Ev} {p pos tpos : Pos} {elts : List Expr} {kk : Nat}
end
end DY

set_option Elab.async false
set_option linter.all false
set_option maxRecDepth 100000
set_option maxHeartbeats 4000000
/-! ### {k: v, ..} -/
namespace DY
open PySem L2 PySem.Spec PyProof.Rows
variable [Tb]
section
variable {K : PySem.W.Frag} {A : CT} {G G' H H' : Hp} {σ : L2.St} {ρ ρ' : Env} {X : Cx} {pos : Pos} {j : Option Nat}
end
end DY

set_option Elab.async false
set_option linter.all false
set_option maxRecDepth 100000
set_option maxHeartbeats 4000000
/-! ### {k: v for ..}, the keys tuples: the kit's rule for dict comprehensions speaks of ints and texts alone; here the first object and the store are left open -/
namespace DY
open PySem L2 PySem.Spec PyProof.Rows
variable [Tb]
section
variable {X : Cx} {z : HO} {R : V → V → Addr → Hp → Hp → Prop} {kx vx tg iter : Expr} {ifs : List Expr} {scope : Scope} {own : List (Str × Nat)} {pos : Pos} {wi : TI} {g : TG} {tt : TT} {tk tv : TE}
end
end DY
namespace DY
open PySem L2 PySem.Spec PyProof.Rows
variable [Tb]
section
variable {K : PySem.W.Frag} {A : CT} {G G' G1 G2 H H' H1 H2 : Hp} {σ σ2 : L2.St} {ρ ρ1 ρ2 ρ' : Env} {vs : List Nat}
end
/-! ### a, b = x, y where a name is shared with a block -/
section
variable {X : Cx} {A : CT} {a b : Expr} {ma mb : Ev} {j : Option Nat} {pos : Pos}
end
end DY

set_option Elab.async false
set_option linter.all false
set_option maxRecDepth 100000
set_option maxHeartbeats 4000000
namespace DY
open PySem L2 PySem.Spec PyProof.Rows
variable [Tb]
/-! ### list(s), s a text: its signs -/
section
variable {X : Cx} {A : CT}
end
end DY

set_option Elab.async false
set_option linter.all false
set_option maxRecDepth 100000
set_option maxHeartbeats 4000000
namespace DY
open PySem L2 PySem.Spec PyProof.Rows
variable [Tb]
/-! ### xs[::-1] -/
section
variable {K : PySem.W.Frag} {A : CT} {σ : L2.St} {H : Hp} {Q : VK}
end
end DY

set_option Elab.async false
set_option linter.all false
set_option maxRecDepth 100000
set_option maxHeartbeats 4000000
namespace DY
open PySem L2 PySem.Spec PyProof.Rows
variable [Tb]
/-! ### repr of a list or tuple of plain data -/
def seqD : D → Bool
  | .lst _ => true
  | .fls _ => true
  | .tup _ => true
  | .kt _ => true
  | _ => false
open Classical in
noncomputable def reprD : List D → R Rv
  | [x] => if seqD x = true ∧ dok dep x = true ∧ (toP x).showable = true ∧ (toP x).hasDict = false ∧ (toP x).depth ≤ 60 ∧ (toP x).shown.cps.size ≤ 100000 then .ok (.str (toP x).shown.cps.toList, false) else .no
  | _ => .no
section
variable {X : Cx} {A : CT}
theorem rep_ref {K : PySem.W.Frag} {G : Hp} {v : V} {d : D} (h : seqD d = true) (r : Rep K A G v d) : ∃ a, v = .ref a := by
  cases r <;> first | exact ⟨_, rfl⟩ | cases h
theorem o_repr (hg : X.A.guards = some []) (hu : X.A.units + 65 < cLine) : CallR X (.builtin "repr") (rDn X.K A reprD) := by
  intro pins s σ H xs us Q I r h
  obtain ⟨G, ds, r0, sb, rs, e, k⟩ := h
  unfold reprD at e
  split at e
  · rename_i x
    split at e
    · rename_i hc
      obtain ⟨h1, h2, h3, h4, h5, h6⟩ := hc
      cases e
      obtain ⟨v1, rfl, r1⟩ := rs.inv1
      obtain ⟨u, rfl, ru⟩ := vals1 r
      obtain ⟨a, rfl⟩ := rep_ref h1 r1
      have dp := rep_dp (K := X.K) (A := A) sb _ _ _ h2 r1
      obtain ⟨as, rd⟩ := Dp.reads I _ _ _ dp ru
      obtain rfl : u = Value.ref a := ru
      refine repr_of_reads' rd h3 (fun z => by rw [h4] at z; cases z) hg (by omega) (fun b o e => e) (fun h' t tk hk => ?_) (by show (toP x).shown.cps.size ≤ sizeLine; rw [sizeLine_eq]; omega)
      have I' : Inv X pins σ H { s with heap := h', toks := tk } := I.kept (t' := tk) hk
      refine ⟨.str (toP x).shown, H, I', ⟨t, rfl⟩, ?_⟩
      have := same_end (K := X.K) sb (Rep.str (K := X.K) (A := A) (toP x).shown.cps.toList) k
      rw [S_cps] at this
      exact this
    · cases e
  · cases e
end
end DY

set_option Elab.async false
set_option linter.all false
set_option maxRecDepth 100000
set_option maxHeartbeats 4000000
namespace DY
open PySem L2 PySem.Spec PyProof.Rows
variable [Tb]
/-! ### d.get(k) -/
section
variable {K : PySem.W.Frag} {A : CT} {σ : L2.St} {H : Hp} {Q : VK} {ma mk : Ev} {i : Nat}
end
section
variable {X : Cx} {A : CT} {x : Str} {pos' apos cpos : Pos} {i : Nat} {a e : Expr} {ma me : Ev}
end
end DY

set_option Elab.async false
set_option linter.all false
set_option maxRecDepth 100000
set_option maxHeartbeats 4000000
namespace DY
open PySem L2 PySem.Spec PyProof.Rows
variable [Tb]
/-! ### t[i::k], k written and neither 0 nor 1 -/
section
variable {prog : Program} {w : World} {A : Around} {E : Value → Shared → Prop} {s : Shared}
end
section
variable {X : Cx} {A : CT} {σ : L2.St} {H : Hp} {Q : VK}
end
end DY

set_option Elab.async false
set_option linter.all false
set_option maxRecDepth 100000
set_option maxHeartbeats 4000000
/-! ### an own dict is shown to an expression that keeps no hold of it -/
namespace DY
open PySem L2 PySem.Spec PyProof.Rows
variable [Tb]
section
variable {K : PySem.W.Frag} {A : CT} {G G' H H' : Hp} {σ : L2.St} {ρ ρ' : Env} {p : Addr}
end
end DY

set_option Elab.async false
set_option linter.all false
set_option maxRecDepth 100000
set_option maxHeartbeats 4000000
/-! SLX: errors of the program: made and raised, caught, asked for their classes and what they keep -/
namespace SL
open PySem L2 PySem.Spec PyProof.Rows
/-! ### a class whose __init__ keeps its one argument under its name -/
def xA (n : Str) (p1 p2 : Pos) : Arguments := ⟨[], [⟨"self", none, p1⟩, ⟨n, none, p2⟩], none, [], [], none, []⟩
def xB (n : Str) (q1 q2 q3 q4 : Pos) : List Stmt := [.Assign [.Attribute (.Name "self" q1) n q2] (.Name n q3) q4]
def xS (n : Str) : Scope := { kind := .function, names := [("self", .local), (n, .local)], isGenerator := false, isCoroutine := false, more := [] }
structure XC (K : PySem.W.Frag) (C fI : Addr) (n : Str) : Prop where
  base : ∃ B newId initId bmB, ExcBaseFacts B newId initId bmB ∧ StoreFacts B bmB "object.__setattr__" "object" ∧ PySem.W.excInitIn K C bmB newId = true ∧ PySem.W.excOver K C bmB = true
  sa : PySem.W.findIn K (.ref C) "__setattr__" = some (some (.builtin "object.__setattr__"))
  hd : PySem.W.hasDictIn K C = true
  no : PySem.W.findIn K (.ref C) n = some none
  ini : PySem.W.findIn K (.ref C) "__init__" = some (some (.ref fI))
  fn : PySem.W.typeIn K (.ref fI) = some (.type "function")
  kp : PySem.W.keepIn K (.ref C) = true
  bx : PySem.W.subIn K (.ref C) (.type "BaseException") = some true
  ty : PySem.W.typeIn K (.ref C) = some (.type "type")
  txt : ∃ (qual : Str) (oc : Value) (od : Option Addr) (doc pm : Value) (an : Option Addr) (cdv ct : Value) (osl : Array (Option Value)) (p1 p2 q1 q2 q3 q4 : Pos),
    K.lookup fI = some ⟨oc, od, .func (PySem.W.fnOf "__init__" qual (xA n p1 p2) (xB n q1 q2 q3 q4) (xS n) .none .none doc pm an cdv ct), osl⟩ ∧ PySem.W.codeIn K cdv qual = true
/-- what the attribute's name must be -/
structure XN (n : Str) : Prop where
  ns : n ≠ "self"
  nd : (n == ("__debug__" : Str)) = false
  bd : ∀ (qual : Str) (p1 p2 : Pos) (body : List Stmt) (doc pm : Value) (an : Option Addr) (cdv ct a b : Value), bindArgs (PySem.W.fnOf "__init__" qual (xA n p1 p2) body (xS n) .none .none doc pm an cdv ct) ⟨[a, b], []⟩ = pure [(("self" : Str), a), (n, b)]
theorem xn_value : XN "value" := ⟨by decide, by decide, fun _ _ _ _ _ _ _ _ _ _ _ => rfl⟩
section
variable {prog : Program} {w : World} {A : Around} {E : Value → Shared → Prop} {R : Result → Shared → Prop} {s : Shared} {K : PySem.W.Frag} {C fI : Addr} {n : Str}
open Builtin Builtin.ObjectAttr in
/-- self.n = v, the first one -/
theorem x_set {Q : Unit → Shared → Prop} {x : Addr} {fv : Array Value} {v : Value} (T : XC K C fI n) (X : K.In s.heap) (hx : s.heap.get? x = some { cls := .ref C, data := .fields fv })
    (h : ∀ h' tk dx, (∀ b o, b ≠ x → s.heap.get? b = some o → h'.get? b = some o) → s.heap.objs.size ≤ dx → dx ≠ x → h'.get? x = some { cls := .ref C, dict := some dx, data := .fields fv } → h'.Ns1 dx (fun y => if y = n then some v else none) → Q () { s with heap := h', toks := tk }) :
    wpAny (model prog w) A (setAttr (.ref x) n v) Q E s := by
  obtain ⟨B, newId, initId, bmB, FB, SF, hi, ho⟩ := T.base
  have J : PySem.W.InstAt s.heap x { cls := .ref C, data := .fields fv } C none := ⟨hx, rfl, rfl, trivial⟩
  have tk0 : PySem.W.takerIn K C n = some none := by unfold PySem.W.takerIn; rw [T.no]; rfl
  obtain ⟨cd, hc, hh⟩ := PySem.W.any_some T.hd
  obtain ⟨hp, g, d, t, os⟩ := s
  refine PySem.W.set_plain X J T.sa ?_
  refine PySem.W.osa_openX (s := ⟨hp, g, d, t + 1, os⟩) SF X J ho tk0 fun b => ?_
  have hcl : PySem.W.Looks (model prog w) hp (classData C) cd := PySem.W.looks_clsIn X hc
  have ne : x ≠ hp.objs.size := Nat.ne_of_lt (Heap.lt_size hx)
  obtain ⟨nm, bs, mro, ns, qn, hdd, sn, sb, ab, col, del⟩ := cd
  dsimp only at hh
  subst hh
  unfold storeInOwnDict ownDictForStores
  repeat (first | with_reducible refine PySem.HandSPX.store_in_new ?_ ?_ | with_reducible refine wpAny_loadPart_at hx ?_ | with_reducible refine hcl.at ?_ | wp_step)
  · exact ⟨_, #[], _, (Heap.get?_update_ne _ _ _ _ ne.symm).trans (Heap.get?_push_at rfl rfl), rfl, fun e z => absurd z (by simp), fun _ => rfl⟩
  · intro h' tk' hn hsb
    have hx1 : (hp.push { cls := .type "dict", data := .dict #[] }).get? x = some { cls := .ref C, data := .fields fv } := Heap.get?_push_of_some _ hx
    exact h h' tk' hp.objs.size (fun b o hb z => (hsb.2 b (Nat.ne_of_lt (Heap.lt_size z))).trans ((Heap.get?_update_ne _ _ _ _ hb).trans (Heap.get?_push_of_some _ z))) (Nat.le_refl _) ne.symm ((hsb.2 x ne).trans (Heap.get?_update_self _ hx1 rfl)) hn
/-- a made error -/
structure XMade (h h' : Heap) (e C d : Addr) (n : Str) (v : Value) : Prop where
  keep : ∀ b o, h.get? b = some o → h'.get? b = some o
  eb : h.objs.size ≤ e
  obj : ∃ t1 : Addr, h'.get? e = some { cls := .ref C, dict := some d, data := .fields #[.ref t1, .none, .none, .none, .bool false, .none] }
  db : h.objs.size ≤ d
  ne : d ≠ e
  ns : h'.Ns1 d (fun y => if y = n then some v else none)
theorem x_name {M : Model} {qual : Str} {L f : Addr} {cd : Value} {m : Str → Option Value} {x : Str} {pos : Pos} {v : Value} {Q : Value → Shared → Prop} (hn : s.heap.Ns L m) (hv : m x = some v) (h : Q v s) (hl : (xS n).names.lookup x = some .local) (hd : (x == ("__debug__" : Str)) = false) :
    wpAny M A (eval (.Name x pos) (envOfC qual (xS n) L f cd)) Q E s := wpAny_Name (wpAny_loadName_local rfl hl hn hv h) hd
theorem x_init {x t0 : Addr} {v : Value} (T : XC K C fI n) (N : XN n) (X : K.In s.heap) (hlim : s.heap.NoLimit) (hx : s.heap.get? x = some (PySem.HandSPX.excO C t0)) (hr : A.depth < recursionLimit)
    (hq : ∀ h' tk dx, (∀ b o, b ≠ x → s.heap.get? b = some o → h'.get? b = some o) → s.heap.objs.size ≤ dx → dx ≠ x → h'.get? x = some { cls := .ref C, dict := some dx, data := .fields #[.ref t0, .none, .none, .none, .bool false, .none] } → h'.Ns1 dx (fun y => if y = n then some v else none) → R (.ok (.ret .none)) { s with heap := h', toks := tk }) :
    codeAny (model prog w) A (.call (.ref fI) ⟨[.ref x, v], []⟩) R s := by
  obtain ⟨qual, oc, od, doc, pm, an, cdv, ct, osl, p1, p2, q1, q2, q3, q4, ho, hcd⟩ := T.txt
  have ns' : (("self" : Str) == n) = false := beq_eq_false_iff_ne.mpr (Ne.symm N.ns)
  have ns2 : (n == ("self" : Str)) = false := beq_eq_false_iff_ne.mpr N.ns
  have ls : (xS n).names.lookup ("self" : Str) = some .local := rfl
  have ln : (xS n).names.lookup n = some .local := by
    show List.lookup n [(("self" : Str), NameKind.local), (n, NameKind.local)] = _
    simp [List.lookup, ns2]
  refine Att.call_fn (binds := [("self", .ref x), (n, v)]) X hlim ho hcd hr (BindsTo.of_eq (N.bd ..)) (by simp [ls, ln]) (fun s1 IC => ?_) rfl rfl rfl
  obtain ⟨h1, tk1, rfl⟩ := IC.toInCall.same
  have k : ∀ b o, s.heap.get? b = some o → h1.get? b = some o := IC.toInCall.keep
  have hn := IC.toInCall.ns
  have e1 : bindL (envOfC qual (xS n) s.heap.objs.size fI cdv).kindOf [("self", Value.ref x), (n, v)] (fun _ => none) n = some v := by
    have : (envOfC qual (xS n) s.heap.objs.size fI cdv).kindOf n = some .local := ln
    simp [bindL, this, N.ns]
  have e2 : bindL (envOfC qual (xS n) s.heap.objs.size fI cdv).kindOf [("self", Value.ref x), (n, v)] (fun _ => none) "self" = some (.ref x) := by
    have : (envOfC qual (xS n) s.heap.objs.size fI cdv).kindOf n = some .local := ln
    have : (envOfC qual (xS n) s.heap.objs.size fI cdv).kindOf "self" = some .local := ls
    simp [bindL, *, Ne.symm N.ns]
  show wpAny _ _ (execs (xB n q1 q2 q3 q4) _) _ _ _
  refine wpAny_execs_cons (plainObj_wpAny_Assign_Attribute (x_name hn e1 (x_name hn e2 ?_ ls (by decide)) ln N.nd))
  refine x_set T (X.keeps k) (k _ _ hx) fun h3 tk3 dx k3 hb ne ho3 hn3 => ?_
  have z : s.heap.objs.size < h1.objs.size := hn.lt
  exact wpAny_execs_nil (hq h3 tk3 dx (fun b o hb e => k3 b o hb (k b o e)) (Nat.le_of_lt (Nat.lt_of_lt_of_le z hb)) ne ho3 hn3)
theorem x_made {v : Value} (T : XC K C fI n) (N : XN n) (X : K.In s.heap) (hlim : s.heap.NoLimit) (hr : A.depth + 1 < recursionLimit)
    (hq : ∀ h' tk e d, XMade s.heap h' e C d n v → R (.ok (.ret (.ref e))) { s with heap := h', toks := tk }) :
    codeAny (model prog w) A (.call (.ref C) ⟨[v], []⟩) R s := by
  obtain ⟨B, newId, initId, bmB, FB, SF, hi, ho⟩ := T.base
  obtain ⟨nm, N', qn, bs, bm, hdct, sn, sub, ab, col, dd, k0, k1, k2, k3, k5, hC, hT⟩ := PySem.W.excInit_of X hi
  obtain ⟨hp, g, dr, tk, os⟩ := s
  have old : ∀ b o, hp.get? b = some o → ((hp.push (PySem.W.kdv_tup [v])).push (PySem.HandSPX.excO C hp.objs.size)).get? b = some o := fun b o z => Heap.get?_push_of_some _ (Heap.get?_push_of_some _ z)
  have new : ((hp.push (PySem.W.kdv_tup [v])).push (PySem.HandSPX.excO C hp.objs.size)).get? (hp.objs.size + 1) = some (PySem.HandSPX.excO C hp.objs.size) := by heap_get
  refine PySem.HandSPX.call_own FB hT hC (PySem.W.looks_findIn X T.ini) (fun self => PySem.W.bind_fn X self T.fn) (by rw [sizeLine_eq]; exact (by decide : 1 ≤ 16777216)) ?_
  refine x_init (s := ⟨(hp.push (PySem.W.kdv_tup [v])).push (PySem.HandSPX.excO C hp.objs.size), g, dr, tk, os⟩) T N (X.keeps old) (hlim.keeps old) new hr fun h' tk' dx k' hb ne ho' hns => ?_
  have sz : hp.objs.size + 1 + 1 ≤ dx := by
    first
      | (simpa only [Heap.size_push] using hb)
      | exact hb
  exact ⟨rfl, hq h' tk' (hp.objs.size + 1) dx ⟨fun b o z => k' b o (Nat.ne_of_lt (Nat.lt_succ_of_lt (Heap.lt_size z))) (old b o z), Nat.le_succ _, ⟨_, ho'⟩, (show hp.objs.size ≤ dx by omega), ne, hns⟩⟩
end
section
variable {X : Cx} {C fI : Addr} {n x : Str} {e : Expr} {ta : TA} {p pos pos' : Pos}
/-- C(e) for a raise -/
def tXm (C : Addr) (n : Str) (ta : TA) : L2.St → Hp → XK → Prop := fun σ H Q => ta σ H fun vs H1 => ∃ v, vs = [v] ∧ ∀ d, H1 d = none → Q (.ref C) (some d) (upd H1 d (.xd [(n, v)]))
theorem pmk_x (T : XC X.K C fI n) (N : XN n) (hr : L2.Room 1 X.A) (hg : Gl X x) (hm : X.mg x = some (.ref C)) (ha : PA X [e] ta)
    (hdb : (x == ("__debug__" : Str)) = false := by decide) (he : starEach [e] X.env = (false, eval e X.env) :: starEach [] X.env := by rfl) (hpl : (backTo pos (starEach [] X.env)).any (·.1) = false := by rfl) :
    PMk X (.Call (.Name x p) [e] [] pos) (tXm C n ta) := by
  intro pins s σ H Q I h
  refine wpAny_Call_Name_kw (ld_glob I hg hm ?_ hdb)
  refine PySem.W.callWith_K (h₀ := X.base) I.ok.mod.kin T.kp (thn (ha.run pos pins s σ H _ I h) fun us s1 ⟨vs, H1, I1, r1, v, ev, q1⟩ => ⟨I1.kIn, ?_⟩) he hpl
  subst ev
  cases r1 with
  | @cons _ u _ _ rv rr =>
  cases rr
  show wpAny _ _ (call (.ref C) [u]) _ _ _
  refine wpAny_call (x_made T N I1.kIn I1.nolimit (by have := hr.dp; omega) fun h' tk e d M => ?_)
  obtain ⟨t1, ho⟩ := M.obj
  obtain ⟨Gh, g1, g2⟩ := restrict h' fun b => decide (b ≠ e)
  have gk : ∀ b, b ≠ e → Gh.get? b = h'.get? b := fun b hb => g1 b (decide_eq_true hb)
  have ge : Gh.get? e = none := g2 e (by simp)
  have old : ∀ b o, s1.heap.get? b = some o → Gh.get? b = some o := fun b o z => by
    rw [gk b (Nat.ne_of_lt (Nat.lt_of_lt_of_le (Heap.lt_size z) M.eb))]; exact M.keep b o z
  have nd : H1 d = none := I1.hok.fresh M.db
  have J : Inv X pins σ (upd H1 d (.xd [(n, v)])) { s1 with heap := Gh, toks := tk } := I1.laid (t' := tk) old M.db ⟨_, M.ns.at fun o z => (gk d M.ne).trans z, fun f => by
    by_cases z : f = n
    · subst z; simp [List.lookup, RelO]; exact rv
    · have z2 : (f == n) = false := beq_eq_false_iff_ne.mpr z
      simp [List.lookup, RelO, z2, z]⟩
  refine ⟨e, _, _, _, _, .ref C, some d, rfl, J, fun b o z => ?_, ge, ho, ⟨rfl, rfl⟩, rfl, rfl, ?_, rfl, J.bare, raises_own T.bx T.ty, q1 d nd⟩
  · by_cases hb : b = e
    · rw [hb, ge] at z; cases z
    · rw [← gk b hb]; exact z
  · rw [upd_ne (Ne.symm M.ne)]; exact I1.hok.fresh M.eb
end
end SL

set_option Elab.async false
set_option linter.all false
set_option maxRecDepth 100000
set_option maxHeartbeats 4000000
/-! SLX2: a try whose one clause takes all that comes -/
namespace SL
open PySem L2 PySem.Spec PyProof.Rows
/-- t, asked of an error of a class that m takes, says yes -/
def XTest (X : Cx) (t : Expr) (m : Value → Bool) : Prop := ∀ (a : Addr) (pn : List (Addr × Obj)) (σ : L2.St) (H : Hp) (s : Shared) (cls : Value) (Q : Bool → Shared → Prop) (E : Value → Shared → Prop), m cls = true → Inv (X.suite a pn) [] σ H s → PySem.W.Looks (model X.prog X.w) s.heap (typeOf (.ref a)) cls →
  (∀ h', (∀ b o, s.heap.get? b = some o → h'.get? b = some o) → Q true { s with heap := h' }) → wpAny (model X.prog X.w) (X.A.mark (some (.ref a))) (eval t X.env) (fun c s1 => wpAny (model X.prog X.w) (X.A.mark (some (.ref a))) (excMatches (.ref a) c) Q E s1) E s
theorem xtest3 {X : Cx} {x1 x2 x3 : Str} {c1 c2 c3 : Value} {m : Value → Bool} {p1 p2 p3 tp : Pos} {kk : Nat} (g1 : Gl X x1) (m1 : X.mg x1 = some c1) (g2 : Gl X x2) (m2 : X.mg x2 = some c2) (g3 : Gl X x3) (m3 : X.mg x3 = some c3)
    (hm : ∀ cls, m cls = true → PySem.W.exmAny X.K cls [c1, c2, c3] = some true) (d1 : (x1 == ("__debug__" : Str)) = false := by decide) (d2 : (x2 == ("__debug__" : Str)) = false := by decide) (d3 : (x3 == ("__debug__" : Str)) = false := by decide) :
    XTest X (.Tuple [.Name x1 p1, .Name x2 p2, .Name x3 p3] kk tp) m := fun a pn σ H s cls Q E hc I LT q => by
  refine wpAny_Tuple (wpAny_items_cons (ld_glob I g1 m1 (wpAny_items_cons (ld_glob I g2 m2 (wpAny_items_cons (ld_glob I g3 m3 (wpAny_items_nil ⟨by size_fits, ?_⟩) d3)) d2)) d1))
  have kp : ∀ b o, s.heap.get? b = some o → (s.heap.push { cls := .type "tuple", data := .seq [c1, c2, c3].toArray }).get? b = some o := fun _ _ z => Heap.get?_push_of_some _ z
  exact (PySem.W.exm_tup3 (I.kIn.keeps kp) (LT.keeps kp) (Heap.get?_push_size s.heap rfl) (hm cls hc)).here (q _ kp)
theorem flying_keeps {B h h' : Heap} {l : List Env} {a : Addr} {Z : Obj → Prop} (k : ∀ b o, h.get? b = some o → h'.get? b = some o) (f : HandSPX.FlyingZ B l a Z h) : HandSPX.FlyingZ B l a Z h' := by
  obtain ⟨f1, f2, f3, oe, vs, T, oT, ts, e1, e2, e3, e4, e5, e6, e7, e8, e9⟩ := f
  exact ⟨fun b o z => k b o (f1 b o z), f2, Heap.FunFrames.of_keeps (fun b o z _ => ⟨o, k b o z, rfl⟩) f3, oe, vs, T, oT, ts, k _ _ e1, e2, e3, e4, e5, e6, k _ _ e7, e8, e9⟩
/-- what the clause wishes of an error of the body: slot i is the clause's name -/
def wX (m : Value → Bool) (i : Nat) (ts : Addr → Value → Option Addr → TS) (D : Ends) : WX := fun cls d σ H =>
  m cls = true ∧ ∀ a, H a = none → i < σ.length → ts a cls d { nx := fun σ' H' => D.nx (σ'.set i none) H', rt := D.rt, bk := fun σ' H' => D.bk (σ'.set i none) H', ct := fun σ' H' => D.ct (σ'.set i none) H' } (σ.set i (some (.ref a))) H
section
variable {X : Cx} {n : Str} {m : Value → Bool} {t : Expr} {i : Nat} {body suite : List Stmt} {b₀ : Stmt} {pos pos' : Pos} {tb : WX → TS} {ts : Addr → Value → Option Addr → TS}
theorem sp_end {pins : List (Addr × Obj)} {Y : Cx} {D : Ends} {f : Flow} {s : Shared} {pins' : List (Addr × Obj)} (h : SP Y pins' D f s) (k : ∀ σ H, Inv Y pins' σ H s → Inv X pins σ H s) : SP X pins D f s := by
  cases f with
  | next => obtain ⟨σ, H, I, q⟩ := h; exact ⟨σ, H, k σ H I, q⟩
  | brk => obtain ⟨σ, H, I, q⟩ := h; exact ⟨σ, H, k σ H I, q⟩
  | cont => obtain ⟨σ, H, I, q⟩ := h; exact ⟨σ, H, k σ H I, q⟩
  | ret u => obtain ⟨v, σ, H, I, r, q⟩ := h; exact ⟨v, σ, H, k σ H I, r, q⟩
theorem ps_tryX (hs : X.stack = X.env :: X.outer) (hf : X.env.frame = some X.env.locals) (hN : X.N.Nodup) (hi : X.N[i]? = some n) (hln : X.env.kindOf n = some .local) (ht : XTest X t m)
    (hb : ∀ (W : WX) (pn : List (Addr × Obj)) (xe : Value → Shared → Prop), Takes (X.tr pn xe) W → PassesOwn (model X.prog X.w) X.A X.env xe → PSs (X.tr pn xe) body (tb W))
    (hsu : ∀ (a : Addr) (oe : Obj) (cls : Value) (d : Option Addr) (pn : List (Addr × Obj)), Zc cls d oe → (∃ vs, oe.data = .fields vs) → PSs (X.suite a ((a, oe) :: pn)) (b₀ :: suite) (ts a cls d)) :
    PS X (.Try body [.ExceptHandler (some t) (some n) (b₀ :: suite) pos'] [] [] pos) (fun D σ H => tb (wX m i ts D) D σ H) := ⟨fun pins s σ H D I h => by
  have fr : X.A.frames = some (X.env :: X.outer) := I.ok.frames.trans (by rw [hs])
  have ok := I.ok
  refine wpAny_Try_except (wpAny_mono ((hb (wX m i ts D) (X.pn ++ pins) _ (fun u s' xx => ?_) PassesOwn.looking).run [] s σ H D (I.toTry _) h) (fun f s1 q => ?_) fun _ _ q => q)
  rotate_left
  · have q' : SP X pins D f s1 := sp_end (Y := X.tr (X.pn ++ pins) _) q fun σ H J => J.ofTry ok
    cases f with
    | next => exact wpAny_execs_nil q'
    | brk => exact q'
    | cont => exact q'
    | ret u => exact q'
  obtain ⟨a, B, sI, pins', σ', H', cls, d, rfl, J0, nb, up, sky, na, os, ag, mc, yes⟩ := xx
  have J : Inv X pins σ' H' sI := J0.ofTry ok
  show wpAny (model X.prog X.w) X.A (noteFrame (.ref a) X.env) _ _ _
  refine Sky.land (B := B) (Z := Zc cls d) Zc.steady fr hf (by rw [← hs]; exact sky) fun h3 fl up3 => ?_
  obtain ⟨oe, vs, ho, hz, hd⟩ := fl.there
  have apart : a ≠ X.env.locals ∧ a ∉ X.fs := by
    have : a ∉ frs (X.env :: X.outer) := fun hm => by
      obtain ⟨_, o', e', nf⟩ := fl.2.2.1.mem hm
      rw [ho] at e'; cases e'
      exact nf _ hd
    exact ⟨fun z => this (List.mem_filterMap.mpr ⟨X.env, List.mem_cons_self, by rw [hf, z]⟩), fun hm => by
      obtain ⟨e, he, q⟩ := List.mem_filterMap.mp hm
      exact this (List.mem_filterMap.mpr ⟨e, List.mem_cons_of_mem _ he, q⟩)⟩
  have J3 : Inv X pins σ' H' { s' with heap := h3 } := J.landed nb fl.1 (up.trans up3) os ag
  refine wpAny_handleBy_cons (codeAny_handlers_test (ht a _ _ _ _ cls _ _ mc (J3.suite ho hd na apart.1 apart.2) (fun A Q E s k q => wpAny_typeOf_ref (k _ _ ho) (by rw [hz.1]; exact q)) fun h4 k4 => ?_)) (by intro q; cases q)
  refine codeAny_handlers_suite_as (HandSPX.lands_againZ (flying_keeps k4 fl) fun h5 fl5 up5 => ?_)
  have up4 : sI.heap.UpToSlots h4 := (up.trans up3).trans (Heap.UpToSlots.of_keeps k4)
  obtain ⟨oe5, vs5, ho5, hz5, hd5⟩ := fl5.there
  have J5 : Inv X pins σ' H' { s' with heap := h5 } := J.landed nb fl5.1 (up4.trans up5) os ag
  refine store_ok (X := X.suite a ((a, oe5) :: (X.pn ++ pins))) (v := .ref a) (J5.suite ho5 hd5 na apart.1 apart.2) hN hi (.inl hln) rfl (fun s6 S6 => ?_) (.inr hln)
  refine wpAny_mono ((hsu a oe5 cls d (X.pn ++ pins) hz5 ⟨_, hd5⟩).run [] s6 _ H' _ S6 (yes a na (by rw [J.len]; exact (List.getElem?_eq_some_iff.mp hi).1))) (fun f s7 q => ?_) fun _ _ z => z.elim
  have go : ∀ {σ7 : L2.St} {H7 : Hp} {R : Shared → Prop}, Inv (X.suite a ((a, oe5) :: (X.pn ++ pins))) [] σ7 H7 s7 → (∀ s8, Inv X pins (σ7.set i none) H7 s8 → R s8) → wpAny (model X.prog X.w) X.A (do bindName X.env n .none; unbindBehindTheSuite X.env n pos') (fun _ s8 => R s8) X.xe s7 := fun S r => gone_ok (S.unsuite ok) hN hi hln r
  cases f with
  | next => obtain ⟨σ7, H7, S7, q⟩ := q; exact go S7 fun s8 J8 => ⟨_, _, J8, q⟩
  | brk => obtain ⟨σ7, H7, S7, q⟩ := q; exact go S7 fun s8 J8 => ⟨_, _, J8, q⟩
  | cont => obtain ⟨σ7, H7, S7, q⟩ := q; exact go S7 fun s8 J8 => ⟨_, _, J8, q⟩
  | ret u => obtain ⟨v, σ7, H7, S7, r, q⟩ := q; exact go S7 fun s8 J8 => ⟨_, _, _, J8, r, q⟩⟩
end
end SL

set_option Elab.async false
set_option linter.all false
set_option maxRecDepth 100000
set_option maxHeartbeats 4000000
/-! SLX3: a def that is called with the caught error, while it is handled -/
namespace SL
open PySem L2 PySem.Spec PyProof.Rows
structure RoomG (k : Nat) (A : Around) : Prop where
  dp : A.depth + 3 * k + 5 < recursionLimit
  un : A.units + 16 * k + 200 < cLine
  g : A.guards = some []
section
variable {k : Nat} {A : Around}
theorem RoomG.units (r : RoomG k A) : A.units + 64 < cLine := by have := r.un; omega
theorem RoomG.units1 (r : RoomG k A) : A.units + 1 < cLine := by have := r.un; omega
theorem RoomG.u65 (r : RoomG k A) : A.units + 65 < cLine := by have := r.un; omega
theorem RoomG.deeper (r : RoomG (k + 1) A) (env : Env) : RoomG k (A.deeper env) :=
  ⟨by have := r.dp; show A.depth + 1 + 3 * k + 5 < _; omega, by have := r.un; show A.units + 3 + 16 * k + 200 < _; omega, r.g⟩
theorem RoomG.of (r : Room k A) (h : Option Value) : RoomG k (A.mark h) := ⟨r.dp, r.un, r.g⟩
end
/-- an error, as the suite that handles it knows it -/
structure Pinned (outer : List Env) (H : Hp) (s : Shared) (a : Addr) (oe : Obj) (cls : Value) (d : Option Addr) : Prop where
  pin : L2H.PinOk outer H s (a, oe)
  z : Zc cls d oe
  f : ∃ vs, oe.data = .fields vs
/-- what such a def promises -/
abbrev SpX := Value → Option Addr → Hp → VK → Prop
structure FnX (P : Program) (w : World) (K : PySem.W.Frag) (mg : Str → Option Value) (base : Heap) (k : Nat) (f : Addr) (fd : FuncData) (e : Str) (sp : SpX) : Prop where
  run : ∀ (A : Around) (outer : List Env) (s : Shared) (H : Hp) (a : Addr) (oe : Obj) (cls : Value) (d : Option Addr) (Q : VK), RoomG k A → Pinned outer H s a oe cls d → Env0 P w K mg base A outer s H → BindsTo s fd ⟨[.ref a], []⟩ [(e, .ref a)] → sp cls d H Q →
    codeAny (model P w) A (.call (.ref f) ⟨[.ref a], []⟩) (CR C8.CX0 outer P w H s Q C8.E0) s
section
variable {P : Program} {w : World} {K : PySem.W.Frag} {mg : Str → Option Value} {base : Heap} {x qual e : Str} {f : Addr} {fd : FuncData} {N : List Str} {k : Nat} {sp : SpX}
abbrev cxE (P : Program) (w : World) (K : PySem.W.Frag) (mg : Str → Option Value) (base : Heap) (N : List Str) (qual : Str) (sc : Scope) (f : Addr) (cdv : Value) (A : Around) (outer : List Env) (s : Shared) (H : Hp) (a : Addr) (oe : Obj) : Cx :=
  L2H.cxH C8.CX0 P w K mg base N qual sc f cdv A outer s H C8.E0 (a, oe)
theorem funX_ok {st : Stmt} (F : Fun K x qual st f fd) (S : FnScope N [e] (defScope st))
    (hbody : ∀ (cdv : Value) (A : Around) (outer : List Env) (s : Shared) (H : Hp) (a : Addr) (oe : Obj) (cls : Value) (d : Option Addr) (Q : VK), RoomG k (A.deeper (envOfC qual (defScope st) s.heap.objs.size f cdv)) → Zc cls d oe → (∃ vs, oe.data = .fields vs) → sp cls d H Q →
      ∃ t, PSs (cxE P w K mg base N qual (defScope st) f cdv A outer s H a oe) (defBody st) t ∧ t { nx := fun _ H' => Q .non H', rt := Q } (start N [.ref a]) H) : FnX P w K mg base (k + 1) f fd e sp := by
  obtain ⟨⟨oc, od, kV, doc, pm, an, cdv, ct, osl, rfl, lk, hcd⟩, kp⟩ := id F
  refine ⟨fun A outer s H a oe cls d Q hr pn e0 hb hsp => ?_⟩
  have stay : ∀ b o, base.get? b = some o → s.heap.get? b = some o := fun b o z => (e0.bs b o z).1
  have KX : K.In s.heap := e0.mod.kin.keeps stay
  have dep : A.depth < recursionLimit := by have := hr.dp; omega
  refine codeAny_call_function dep (KX _ _ lk) rfl S.co S.gen rfl (PySem.W.codeRec_of KX hcd) (hb _ _ _ _ (wpAny_newFunctionEnv_cells S.kind (fun ⟨n, v⟩ hy => by
    have hn : n = e := congrArg Prod.fst (List.mem_singleton.mp hy)
    subst hn
    exact (S.par n (List.mem_singleton.mpr rfl)).imp id fun q => ⟨q, PySem.W.cellsFrom_some _ _ _ (.inl q)⟩) fun env he s1 x => ?_))
  subst he
  refine ⟨(e0.mod.nolimit.keeps stay).keeps x.toInCall.keep, codeAny_func ?_⟩
  obtain ⟨t, ht, hq⟩ := hbody cdv A outer s H a oe cls d Q (hr.deeper _) pn.z pn.f hsp
  have I : Inv (cxE P w K mg base N qual (defScope st) f cdv A outer s H a oe) [] (start N [.ref a]) H s1 := L2H.inv_startH (us := [.ref a]) S pn.pin e0 rfl (.cons rfl .nil) x
  refine wpAny_mono (ht.run [] s1 (start N [.ref a]) H _ I hq) (fun fl s' hs => ?_) fun _ _ hs => hs
  cases fl with
  | ret u => obtain ⟨v, σ', H', J, rv, q⟩ := hs; exact ⟨v, H', J.os, J.bare, J.base, J.hok, rv, q⟩
  | next => obtain ⟨σ', H', J, q⟩ := hs; exact ⟨V.non, H', J.os, J.bare, J.base, J.hok, rfl, q⟩
  | brk => obtain ⟨_, _, _, q⟩ := hs; exact q.elim
  | cont => obtain ⟨_, _, _, q⟩ := hs; exact q.elim
end
/-! ### isinstance, attributes -/
/-- what a class of errors must tell -/
structure XA (K : PySem.W.Frag) (C : Addr) : Prop where
  hd : PySem.W.hasDictIn K C = true
  ga : PySem.W.findIn K (.ref C) "__getattribute__" = some (some (.builtin "BaseException.__getattribute__"))
  gg : PySem.W.findIn K (.ref C) "__getattr__" = some none
  bx : PySem.W.subIn K (.ref C) (.type "BaseException") = some true
  ca : PySem.W.findIn K (.ref C) "__class__" = some (some (.builtin "object.__class__"))
  cn : PySem.W.specialIn K (.builtin "object.__class__") "__get__" = some (some (.builtin "getset_descriptor.__get__"))
  ct : PySem.W.takesIn K (.builtin "object.__class__") = some true
  mo : PySem.W.mroIn K C (.type "object") = some true
section
variable {X : Cx} {a C d : Addr} {oe : Obj} {n : Str} {e : Expr} {te : TE} {pos : Pos}
theorem xinst {pins : List (Addr × Obj)} {σ : L2.St} {H : Hp} {s : Shared} {fs : List (Str × V)} (I : Inv X pins σ H s) (hp : (a, oe) ∈ X.pn) (hz : Zc (.ref C) (some d) oe) (hf : ∃ vs, oe.data = .fields vs) (hd : H d = some (.xd fs)) :
    ∃ (od : Obj) (mA : Str → Option Value), (∀ f, RelO (fs.lookup f) (mA f)) ∧ (∀ y, PySem.W.lookIn y od = some (mA y)) ∧ PySem.W.InstAt s.heap a oe C (some od) := by
  obtain ⟨ha, _⟩ := I.pin (a, oe) (List.mem_append_left _ hp)
  obtain ⟨vs, hv⟩ := hf
  obtain ⟨mA, hns, hr⟩ := (show ObjOk X.prog X.w H s.heap d (.xd fs) from I.hok d _ hd)
  obtain ⟨od, ho, hl⟩ := lookIn_ns hns
  exact ⟨od, mA, hr, hl, ⟨ha, hz.1, by unfold PySem.W.notCls; rw [hv] <;> rfl, by rw [hz.2]; exact ho⟩⟩
/-- isinstance(e, c) -/
theorem call_isX (T : XA X.K C) (hp : (a, oe) ∈ X.pn) (hz : Zc (.ref C) (some d) oe) (hf : ∃ vs, oe.data = .fields vs) : CallR X (.builtin "isinstance") (fun xs H Q => ∃ (c : V) (cv : Value) (b : Bool) (fs : List (Str × V)), xs = [.ref a, c] ∧ (∀ u, RelV c u → u = cv) ∧ H d = some (.xd fs) ∧ PySem.W.kitOne X.K (.ref C) cv = some b ∧ Q (.bl b) H) := by
  intro pins s σ H xs us Q I r h
  obtain ⟨c, cv, b, fs, rfl, hcv, hd, hk, q⟩ := h
  cases r with
  | cons rx rr => cases rr with
    | cons rc rr =>
      cases rr
      cases rx
      cases hcv _ rc
      obtain ⟨od, mA, _, _, J⟩ := xinst I hp hz hf hd
      obtain ⟨cd, hc, _⟩ := PySem.W.any_some T.hd
      exact PySem.W.kia_one (PySem.W.kitx_exc (by rw [hc]; rfl) T.ga T.gg T.bx T.ca T.cn T.ct T.mo) I.kIn J hk (fun z => nomatch z) fun tk => ⟨.bl b, H, I.kept (t' := tk) fun _ _ z => z, rfl, q⟩
/-- e.n -/
theorem pe_attrX (T : XA X.K C) (hno : PySem.W.findIn X.K (.ref C) n = some none) (hp : (a, oe) ∈ X.pn) (hz : Zc (.ref C) (some d) oe) (hf : ∃ vs, oe.data = .fields vs) (he : PE X e te) (hb : attributeBase e n X.env (eval e X.env) = eval e X.env := by rfl) :
    PE X (.Attribute e n pos) (fun σ H Q => te σ H fun x H1 => ∃ fs v, x = .ref a ∧ H1 d = some (.xd fs) ∧ fs.lookup n = some v ∧ Q v H1) := ⟨fun pins s σ H Q I h => by
  refine attr_of hb (thn (he.run pins s σ H _ I h) fun u s1 hh => ?_)
  obtain ⟨x, H1, I1, rx, fs, v, ex, hd, l, q⟩ := hh
  subst ex
  obtain rfl : u = Value.ref a := rx
  obtain ⟨od, mA, hr, hl, J⟩ := xinst I1 hp hz hf hd
  obtain ⟨u, hu, ru⟩ := RelO.some_of (v := v) (o := mA n) (by rw [← l]; exact hr n)
  exact HandSPX.exc_get I1.kIn J T.ga T.gg T.bx (PySem.W.findObj_own T.hd hno rfl (by rw [hl, hu])) (handed_of ru) ⟨v, H1, I1.tok _, ru, q⟩⟩
end
/-! ### g(e), in the suite -/
section
variable {X : Cx} {a f : Addr} {oe : Obj} {cls : Value} {d : Option Addr} {pn : List (Addr × Obj)} {x e : Str} {k i : Nat} {fd : FuncData} {sp : SpX} {p p2 pos : Pos}
theorem pe_callX (F : FnX X.prog X.w X.K X.mg X.base k f fd e sp) (hr : Room k X.A) (hz : Zc cls d oe) (hf : ∃ vs, oe.data = .fields vs) (hst : X.stack = X.env :: X.outer) (hfr : X.env.frame = some X.env.locals) (hg : Gl X x) (hm : X.mg x = some (.ref f)) (hk : PySem.W.keepIn X.K (.ref f) = true) (hb : Binds X.K fd [e] [])
    (hv : PE (X.suite a ((a, oe) :: pn)) (.Name e p2) (tVar i)) (hdb : (x == ("__debug__" : Str)) = false := by decide) (he : starEach [.Name e p2] X.env = (false, eval (.Name e p2) X.env) :: starEach [] X.env := by rfl) (hpl : (backTo pos (starEach [] X.env)).any (·.1) = false := by rfl) :
    PE (X.suite a ((a, oe) :: pn)) (.Call (.Name x p) [.Name e p2] [] pos) (fun σ H Q => σ[i]? = some (some (.ref a)) ∧ sp cls d H Q) := ⟨fun pins s σ H Q I h => by
  have hg' : Gl (X.suite a ((a, oe) :: pn)) x := hg
  refine wpAny_Call_Name_kw (ld_glob I hg' hm (PySem.W.callWith_K (h₀ := X.base) I.ok.mod.kin hk (thn ((pa_cons hv pa_nil he).run pos pins s σ H (fun vs H' => vs = [.ref a] ∧ H' = H) I ⟨_, h.1, rfl, rfl⟩) fun us s1 ⟨vs, H1, I1, r, ev, eH⟩ => ⟨I1.kIn, ?_⟩) he hpl) hdb)
  rw [eH] at I1
  subst ev
  cases r with
  | cons rx rr =>
  cases rr
  cases rx
  obtain ⟨ha, na, nl, nf, nc⟩ := I1.pin (a, oe) (List.mem_append_left _ List.mem_cons_self)
  have pn' : Pinned X.stack H s1 a oe cls d := ⟨⟨ha, na, fun z => by
    rw [hst] at z
    rcases List.mem_filterMap.mp z with ⟨ev, he', q⟩
    rcases List.mem_cons.mp he' with rfl | he'
    · rw [hfr] at q; cases q; exact nl rfl
    · exact nf (List.mem_filterMap.mpr ⟨ev, he', q⟩), nc⟩, hz, hf⟩
  have E1 := I1.env0
  refine wpAny_call (codeAny_mono (F.run _ X.stack s1 H a oe cls d Q (RoomG.of hr _) pn' E1 (hb s1 [.ref a] I1.kIn rfl) h.2) fun r s' hq => ?_)
  cases r with
  | error er => exact (show False from hq).elim
  | ok fl =>
    cases fl with
    | ret u => exact I1.after hq
    | next => exact hq.elim
    | brk => exact hq.elim
    | cont => exact hq.elim⟩
end
end SL

set_option Elab.async false
set_option linter.all false
set_option maxRecDepth 100000
set_option maxHeartbeats 4000000
/-! SLX4: _law_told(lambda: ..) -/
namespace SL
open PySem L2 PySem.Spec PyProof.Rows LamX
section
variable {X : Cx} {pins : List (Addr × Obj)} {σ : L2.St} {H : Hp} {s : Shared}
/-- the heap behind the making of a lambda: as it was, or with one code object more, which the maker's table tells -/
def LamH (P : Addr) (q : Str) (H H1 : Hp) : Prop := H1 = H ∨ ∃ ps more c, H P = some (.tbl ps) ∧ H c = none ∧ H1 = upd (upd H P (.tbl (ps ++ more))) c (CodeO c q)
theorem LamH.keep {P b : Addr} {q : Str} {H H1 : Hp} {o : HO} (l : LamH P q H H1) (h : H b = some o) (n : ∀ ps, o ≠ .tbl ps) : H1 b = some o := by
  rcases l with rfl | ⟨ps, more, c, e1, e2, rfl⟩
  · exact h
  · rw [upd_ne (ne_of_none h e2), upd_ne fun z => n ps (by rw [z, e1] at h; exact (Option.some.inj h).symm)]; exact h
theorem LamH.there {P b : Addr} {q : Str} {H H1 : Hp} (l : LamH P q H H1) (h : H b ≠ none) : H1 b ≠ none := by
  rcases l with rfl | ⟨ps, more, c, e1, e2, rfl⟩
  · exact h
  · by_cases z : b = c
    · rw [z, upd_same]; exact fun x => nomatch x
    · rw [upd_ne z]
      by_cases y : b = P
      · rw [y, upd_same]; exact fun x => nomatch x
      · rw [upd_ne y]; exact h
theorem tab_grown {P c : Addr} {q : Str} {H : Hp} {ps : Array Value} {pos : Pos} {T : List (Addr × Str)} (hP : H P = some (.tbl ps)) (hc : H c = none) (hT : Tabs T H) (hu : ∀ x ∈ T, x.1 = P → x.2 = q) : Tabs T (upd (upd H P (.tbl (ps ++ #[rawInt pos.line, rawInt pos.col, .ref c]))) c (CodeO c q)) := fun x hx => by
  obtain ⟨rs, e1, e2, e3⟩ := hT x hx
  have kept : ∀ {b r}, H b = some (CodeO b r) → upd (upd H P (.tbl (ps ++ #[rawInt pos.line, rawInt pos.col, .ref c]))) c (CodeO c q) b = some (CodeO b r) := fun {b r} h => by
    rw [upd_ne (ne_of_none h hc), upd_ne (fun z => by rw [z, hP] at h; exact codeO_ne ps (Option.some.inj h).symm)]; exact h
  by_cases z : x.1 = P
  · have er : rs = ps := by rw [z, hP] at e1; cases e1; rfl
    subst er
    have el : (rs ++ #[rawInt pos.line, rawInt pos.col, Value.ref c]).toList = rs.toList ++ [rawInt pos.line, rawInt pos.col, Value.ref c] := by simp
    refine ⟨_, by rw [z, upd_ne (ne_of_none hP hc), upd_same], by rw [el]; exact TriplesOk_snoc _ _ _ _ e2, fun pos' cv hcv => ?_⟩
    rw [el] at hcv
    rcases among_app _ e2 hcv with y | y
    · obtain ⟨b, rfl, hb⟩ := e3 pos' cv y
      exact ⟨b, rfl, kept hb⟩
    · exact ⟨c, y, by rw [upd_same, hu x hx z]⟩
  · refine ⟨rs, by rw [upd_ne (ne_of_none e1 hc), upd_ne z]; exact e1, e2, fun pos' cv hcv => ?_⟩
    obtain ⟨b, rfl, hb⟩ := e3 pos' cv hcv
    exact ⟨b, rfl, kept hb⟩
theorem lam_makeG {T : List (Addr × Str)} {c P : Addr} {params : Arguments} {body : Expr} {scope : Scope} {pos : Pos} {E : Value → Shared → Prop} {Q : Value → Shared → Prop} (I : Inv X pins σ H s) (B : TabB X.base X.mg c P) (hcode : X.env.code = .ref c) (hm : (P, X.env.qual ++ "<lambda>") ∈ T) (hu : ∀ p ∈ T, p.1 = P → p.2 = X.env.qual ++ "<lambda>") (hT : Tabs T H) (hdef : defaultsOf params X.env = ([], [])) (hfree : ∀ y ∈ scope.names, y.2 = .free → ∃ c, X.env.cells.lookup y.1 = some c)
    (h : ∀ (f c' : Addr) (pm ctv : Value) (H1 : Hp) (s' : Shared), Inv X pins σ H1 s' → LamH P (X.env.qual ++ "<lambda>") H H1 → Tabs T H1 → s'.heap.get? f = some (PySem.W.kla_obj "<lambda>" (X.env.qual ++ "<lambda>") params body scope (cloFrom X.env.cells scope.names []) pm c' ctv) → H1 f = none → f ∉ frs X.stack → H1 c' = some (CodeO c' (X.env.qual ++ "<lambda>")) → Q (.ref f) s') :
    wpAny (model X.prog X.w) X.A (eval (.Lambda params body scope pos) X.env) Q E s := by
  obtain ⟨ps, tP, tr, tell⟩ := hT _ hm
  have oP : s.heap.get? P = some { cls := .none, data := .fields ps } := I.hok P _ tP
  have out : ∀ f, s.heap.objs.size ≤ f → f ∉ frs X.stack := fun f le z => by
    rcases List.mem_cons.mp (I.stkSub _ z) with e | e
    · have lt := I.lt
      rw [← e] at lt
      exact absurd lt (Nat.not_lt.mpr le)
    · exact I.nofs le e
  refine PySem.W.kla_eval hdef ?_
  cases am : codeAmong pos ps.toList with
  | some cv =>
    obtain ⟨c', rfl, hco⟩ := tell pos cv am
    exact PySem.W.kla_makeFunctionHit (mg := X.mg) (c := c) (P := P) (ps := ps) (closure_ok hfree) I.ok.glob (I.mod.glob.keeps I.bk) hcode (B.code.keeps I.bk) oP tr am (B.bm.keeps I.bk) fun ctv h' tk hx hsz =>
      h h'.objs.size c' ((X.mg "__name__").getD .none) ctv H _ (I.kept fun b o e => Heap.get?_push_of_some _ (hx b o e)) (.inl rfl) hT (Heap.get?_push_size _ rfl) (I.hok.fresh hsz) (out _ hsz) hco
  | none =>
    refine PySem.W.kla_makeFunction (mg := X.mg) (c := c) (P := P) (ps := ps) (closure_ok hfree) I.ok.glob (I.mod.glob.keeps I.bk) hcode (B.code.keeps I.bk) oP tr am B.gP (B.bm.keeps I.bk) fun c' ctv h' tk hx ge lt told tab => ?_
    obtain ⟨c2, oc, vs, t, ec, hoc, hd, hv⟩ := told
    cases ec
    have le : s.heap.objs.size ≤ h'.objs.size := Nat.le_trans ge (Nat.le_of_lt lt)
    have nc : H c' = none := I.hok.fresh ge
    refine h h'.objs.size c' ((X.mg "__name__").getD .none) ctv _ _ (inv_table (t' := tk) (more := #[rawInt pos.line, rawInt pos.col, .ref c']) I tP (fun b o hb e => Heap.get?_push_of_some _ (hx b o hb e)) (Heap.get?_push_of_some _ tab) ge ⟨oc, vs, t, Heap.get?_push_of_some _ hoc, hd, hv⟩) (.inr ⟨ps, _, c', tP, nc, rfl⟩) (tab_grown tP nc hT hu) (Heap.get?_push_size _ rfl) ?_ (out _ le) upd_same
    rw [upd_ne (Nat.ne_of_gt lt), upd_ne (Nat.ne_of_gt (Nat.lt_of_lt_of_le (Heap.lt_size oP) le))]
    exact I.hok.fresh le
/-- what is known of a made lambda -/
structure Lam (X : Cx) (σ : L2.St) (H : Hp) (s : Shared) (params : Arguments) (body : Expr) (scope : Scope) (f c' : Addr) (pm ctv : Value) : Prop where
  inv : ∃ pins, Inv X pins σ H s
  sc : LamS X.env.scope scope
  at_ : s.heap.get? f = some (PySem.W.kla_obj "<lambda>" (X.env.qual ++ "<lambda>") params body scope (cloFrom X.env.cells scope.names []) pm c' ctv)
  free : H f = none
  nofr : f ∉ frs X.stack
  bind : bindArgs (PySem.W.kla_fn "<lambda>" (X.env.qual ++ "<lambda>") params body scope (cloFrom X.env.cells scope.names []) pm (.ref c') ctv) ⟨[], []⟩ = pure []
/-- a(), in the def that got the lambda and was entered at s -/
theorem pe_actG {CXg : CXT} {Eg E : XK} {Ng : List Str} {qg : Str} {sg : Scope} {g f c' : Addr} {cdg pm ctv : Value} {params : Arguments} {body : Expr} {scope : Scope} {k i : Nat} {a : Str} {pn : List (Addr × Obj)} {xe : Value → Shared → Prop} {W : WX} {tb : TE} {p1 p2 : Pos}
    (L : Lam X σ H s params body scope f c' pm ctv) (tk : Takes ((cxOf CXg X.prog X.w X.K X.mg X.base Ng qg sg g cdg X.A X.stack s H Eg).tr pn xe) W) (hW : ∀ cls d σ' H', E cls d H' → W cls d σ' H') (hr : Room (k + 1) (X.A.deeper (envOfC qg sg s.heap.objs.size g cdg)))
    (hbody : ∀ (A : Around) (outer : List Env) (s : Shared) (H : Hp), Room k (A.deeper (lamEnv X scope s.heap.objs.size f c')) → PE (lamCx X A outer s H E scope f c') body tb)
    (hN : Ng[i]? = some a) (hv : Vis sg a) (hd : (a == ("__debug__" : Str)) = false := by decide) (hcd : (a == ("__classdict__" : Str)) = false := by decide) :
    PE ((cxOf CXg X.prog X.w X.K X.mg X.base Ng qg sg g cdg X.A X.stack s H Eg).tr pn xe) (.Call (.Name a p1) [] [] p2)
      (fun σZ HZ Q => σZ[i]? = some (some (.ref f)) ∧ HZ c' = some (CodeO c' (X.env.qual ++ "<lambda>")) ∧ tb σ HZ Q) := ⟨fun pz sZ σZ HZ Q IZ h => by
  obtain ⟨h1, h2, h3⟩ := h
  obtain ⟨pins, I⟩ := L.inv
  refine wpAny_Call_Name_kw (thn ((pe_var (i := i) hN hv hd hcd).run pz sZ σZ HZ (fun v H1 => v = .ref f ∧ H1 = HZ) IZ ⟨_, h1, rfl, rfl⟩) fun u s1 q => ?_)
  obtain ⟨v, H1, I1, rv, rfl, rfl⟩ := q
  obtain rfl : u = Value.ref f := rv
  have of1 := I1.base.keep f _ L.at_ L.free L.nofr (fun z => nomatch (show f ∈ ([] : List Addr) from z))
  obtain ⟨⟨oc, vs, t, hoc, hdc, hvc⟩, _, _⟩ := I1.hok c' _ h2
  refine PySem.W.callWith_F0 ⟨_, _, _, _, of1⟩ (wpAny_call (codeAny_mono (R := CR (L2.CX X.prog X.w) (envOfC qg sg s.heap.objs.size g cdg :: X.stack) X.prog X.w H1 s1 Q E) (PySem.W.kla_callFunE hr.toRoom.depth of1 rfl L.sc.co L.sc.gen rfl ⟨c', oc, vs, t, rfl, hoc, hdc, hvc⟩ ?_) fun r s' hq => ?_))
  · show wpAny _ _ (bindArgs _ ⟨[], []⟩) _ _ _
    rw [L.bind]
    refine wpAny_pure (wpAny_newFunctionEnv (fun y hy => (L.sc.own y hy).2) (fun y hy => absurd hy (by simp)) (fun h2 hns hsb => ⟨I1.nolimit.fresh _ hsb, ?_⟩) L.sc.kind)
    have kp : ∀ b o, s1.heap.get? b = some o → h2.get? b = some o := fun b o z => hsb.extBut b o (Nat.ne_of_lt (Heap.lt_size z)) (Heap.get?_push_of_some _ z)
    have J := lam_start2 (E := E) (f := f) (c' := c') (tk := s1.toks + ([] : List (Str × Value)).length) I L.sc I1.env0 hr.toRoom.hd I1.base hns kp
    refine PySem.W.kla_codeExpr (wpAny_mono ((hbody _ _ s1 H1 (hr.deeper _)).run [] _ _ H1 Q J h3) (fun v s' hq => ?_) fun _ _ hq => hq)
    obtain ⟨u, H', J', rv, q⟩ := hq
    exact ⟨u, H', J'.os, J'.bare, J'.base, J'.hok, rv, q⟩
  · cases r with
    | error er => exact passes_call tk hW pz σZ H1 s1 er s' I1 hq
    | ok fl =>
      cases fl with
      | ret u => exact I1.after hq
      | next => exact hq.elim
      | brk => exact hq.elim
      | cont => exact hq.elim⟩
end
/-! ### the def that tells what a call gives, or the error -/
def toldB (tl ts : Str) (t : Expr) (q1 q2 q3 q4 q5 q6 q7 q8 q9 q10 q11 q12 q13 q14 : Pos) (j : Nat) : List Stmt :=
  [.Try [.Assign [.Name "_law_got" q1] (.Call (.Name "_law_act" q2) [] [] q3) q4] [.ExceptHandler (some t) (some "_law_e") [.Return (some (.Call (.Name ts q5) [.Name "_law_e" q6] [] q7)) q8] q9] [] [] q10,
   .Return (some (.List [.Constant (.str tl) j q11, .Name "_law_got" q12] q13)) q14]
abbrev toldN : List Str := ["_law_act", "_law_got", "_law_e"]
/-- what the def at g is -/
structure Told (K : PySem.W.Frag) (mg : Str → Option Value) (x : Str) (g : Addr) (sg : Scope) (cdv : Value) (t : Expr) (tl ts : Str) : Prop where
  ex : ∃ (pg : Arguments) (dV kV doc pm : Value) (an : Option Addr) (ct oc : Value) (od : Option Addr) (osl : Array (Option Value)) (q1 q2 q3 q4 q5 q6 q7 q8 q9 q10 q11 q12 q13 q14 : Pos) (j : Nat),
    K.lookup g = some ⟨oc, od, .func (PySem.W.fnOf x x pg (toldB tl ts t q1 q2 q3 q4 q5 q6 q7 q8 q9 q10 q11 q12 q13 q14 j) sg dV kV doc pm an cdv ct), osl⟩ ∧ L2.Binds K (PySem.W.fnOf x x pg (toldB tl ts t q1 q2 q3 q4 q5 q6 q7 q8 q9 q10 q11 q12 q13 q14 j) sg dV kV doc pm an cdv ct) ["_law_act"] []
  cd : PySem.W.codeIn K cdv x = true
  mg : mg x = some (.ref g)
  kp : PySem.W.keepIn K (.ref g) = true
  sc : FnScope toldN ["_law_act"] sg
  la : sg.names.lookup ("_law_act" : Str) = some .local
  lg : sg.names.lookup ("_law_got" : Str) = some .local
  le : sg.names.lookup ("_law_e" : Str) = some .local
  gs : sg.names.lookup ts = some .globalImplicit
def tTold (T : List (Addr × Str)) (P : Addr) (q : Str) (m : Value → Bool) (tl : Str) (sp : SpX) (tb : XK → TE) : TE := fun σ H Q => Tabs T H ∧ ∀ H1, LamH P q H H1 → Tabs T H1 →
  tb (fun cls d H' => m cls = true ∧ sp cls d H' Q) σ H1 fun v H' => ∀ p, H' p = none → Q (.ref p) (upd H' p (.lst [.str tl, v]))
section
variable {X : Cx}
theorem pe_told {T : List (Addr × Str)} {m : Value → Bool} {sp : SpX} {x tl ts : Str} {g fs c P : Addr} {fd : FuncData} {k : Nat} {sg : Scope} {cdv : Value} {t : Expr} {params : Arguments} {body : Expr} {scope : Scope} {tb : XK → TE} {p lpos pos : Pos}
    (D : Told X.K X.mg x g sg cdv t tl ts) (hg : Gl X x) (hms : X.mg ts = some (.ref fs)) (hks : PySem.W.keepIn X.K (.ref fs) = true) (hbs : Binds X.K fd ["_law_e"] []) (F : FnX X.prog X.w X.K X.mg X.base k fs fd "_law_e" sp)
    (ht : ∀ (s : Shared) (H : Hp), XTest (cxOf C8.CX0 X.prog X.w X.K X.mg X.base toldN x sg g cdv X.A X.stack s H C8.E0) t m)
    (TB : TabB X.base X.mg c P) (hcode : X.env.code = .ref c) (hmT : (P, X.env.qual ++ "<lambda>") ∈ T) (hu : ∀ p ∈ T, p.1 = P → p.2 = X.env.qual ++ "<lambda>") (hr : Room (k + 2) X.A) (L : LamS X.env.scope scope) (hdef : defaultsOf params X.env = ([], []))
    (hbind : ∀ (q : Str) (cl : List (Str × Addr)) (pm cv ctv : Value), bindArgs (PySem.W.kla_fn "<lambda>" q params body scope cl pm cv ctv) ⟨[], []⟩ = pure [])
    (hbody : ∀ (A : Around) (outer : List Env) (s : Shared) (H : Hp) (E : XK) (f c' : Addr), Room k (A.deeper (lamEnv X scope s.heap.objs.size f c')) → PE (lamCx X A outer s H E scope f c') body (tb E))
    (mono : ∀ (E : XK) (σ : L2.St) (H : Hp) (Q Q' : VK), (∀ v H', Q v H' → Q' v H') → tb E σ H Q → tb E σ H Q')
    (hdb : (x == ("__debug__" : Str)) = false := by decide) (hdt : (ts == ("__debug__" : Str)) = false := by decide) :
    PE X (.Call (.Name x p) [.Lambda params body scope lpos] [] pos) (tTold T P (X.env.qual ++ "<lambda>") m tl sp tb) := ⟨fun pins s σ H Q I h => by
  obtain ⟨hT, h⟩ := h
  obtain ⟨pg, dV, kV, doc, pm0, an, ct, oc, od, osl, q1, q2, q3, q4, q5, q6, q7, q8, q9, q10, q11, q12, q13, q14, j, lk, hbg⟩ := D.ex
  refine wpAny_Call_Name_kw (ld_glob I hg D.mg (PySem.W.callWith_K (h₀ := X.base) I.ok.mod.kin D.kp ?_ (by rfl) (by rfl)) hdb)
  show wpAny _ _ (spliced ((false, eval (.Lambda params body scope lpos) X.env) :: backTo pos (starEach [] X.env))) _ _ s
  refine Calls.spliced_cons (lam_makeG I TB hcode hmT hu hT hdef (L.has I.ok) fun f c' pm ctv H1 s1 I1 eN T1 hf hfn hfr hco => Calls.spliced_nil ⟨I1.kIn, ?_⟩)
  have lam : Lam X σ H1 s1 params body scope f c' pm ctv := ⟨⟨_, I1⟩, L, hf, hfn, hfr, hbind ..⟩
  refine wpAny_call (codeAny_mono (run_ofS (k := k + 1) (N := toldN) (ps := ["_law_act"]) (us := [.ref f]) (vs := [.ref f]) (CX := C8.CX0) (Q := Q) (E := C8.E0) lk D.cd D.sc hr.toRoom I1.env0 (hbg s1 [.ref f] I1.kIn rfl) (.cons rfl .nil) rfl fun _ => ?_) fun r s2 hq => ?_)
  · have hr1 : Room (k + 1) (X.A.deeper (envOfC x sg s1.heap.objs.size g cdv)) := hr.deeper _
    let Y : Cx := cxOf C8.CX0 X.prog X.w X.K X.mg X.base toldN x sg g cdv X.A X.stack s1 H1 C8.E0
    have nd : Y.N.Nodup := by show toldN.Nodup; decide
    have vis : ∀ {y : Str}, sg.names.lookup y = some .local → Vis sg y := fun h => .inl h
    refine ⟨_, pss_cons (ps_tryX (X := Y) (m := m) (i := 2) rfl rfl nd rfl D.le (ht s1 H1) (tb := fun W D' σ' H' => ∃ E : XK, (∀ cls d σ'' H'', E cls d H'' → W cls d σ'' H'') ∧ σ'[0]? = some (some (.ref f)) ∧ H' c' = some (CodeO c' (X.env.qual ++ "<lambda>")) ∧ tb E σ H' fun v H'' => D'.nx (σ'.set 1 (some v)) H'')
      (ts := fun a cls d D' σ' H' => σ'[2]? = some (some (.ref a)) ∧ sp cls d H' D'.rt) (fun W pn xe tk po => ?_) (fun a oe cls d pn hz hf => pss_one (ps_ret (pe_callX (X := Y) (i := 2) F (hr1.mono (by omega)) hz hf rfl rfl D.gs hms hks hbs (pe_var (X := Y.suite a ((a, oe) :: pn)) (i := 2) rfl (vis D.le)) hdt))))
      (pss_one (ps_ret (pe_lst (pa_cons pe_str (pa_cons (pe_var (i := 1) rfl (vis D.lg)) pa_nil))))), ?_⟩
    · refine pss_one ⟨fun pz s' σ' H' D' IZ hh => ?_⟩
      obtain ⟨E, hW, e1, e2, e3⟩ := hh
      exact (ps_set (X := Y.tr pn xe) (i := 1) nd rfl (Or.inl D.lg) (pe_actG (i := 0) (a := "_law_act") lam tk hW hr1 (fun A outer s H r => hbody A outer s H E f c' r) rfl (vis D.la))).run pz s' σ' H' D' IZ ⟨e1, e2, e3⟩
    · refine ⟨fun cls d H' => m cls = true ∧ sp cls d H' Q, fun cls d σ'' H'' z => ⟨z.1, fun a _ hl => ⟨List.getElem?_set_self hl, z.2⟩⟩, rfl, hco, ?_⟩
      exact mono _ _ _ _ _ (fun v H' z => ⟨v, rfl, by rw [sizeLine_eq]; exact (by decide : 2 ≤ 16777216), z⟩) (h H1 eN T1)
  · cases r with
    | error er => exact (show False from hq).elim
    | ok fl =>
      cases fl with
      | ret u => exact I1.after hq
      | next => exact hq.elim
      | brk => exact hq.elim
      | cont => exact hq.elim⟩
end
end SL

set_option Elab.async false
set_option linter.all false
set_option maxRecDepth 100000
set_option maxHeartbeats 4000000
/-! ### errors: where a mirror ends with one -/
namespace DY
open PySem L2 PySem.Spec PyProof.Rows
variable [Tb]
section
variable (K : PySem.W.Frag) (A : CT)
/-- an error, by its class and its own dict -/
def RepX (G H : Hp) (cls : Value) (dd : Option Addr) (d : D) : Prop := ∃ c x n v p, d = .ins c [x] ∧ c ∈ A.xs ∧ cls = .ref (A.ad c) ∧ A.nms c = [n] ∧ dd = some p ∧ G p = some (.xd [(n, v)]) ∧ Rep K A G v x
structure NxX (σ : L2.St) (G H : Hp) (ρ : Env) (G' H' : Hp) : Prop where
  ext : Ext (OwnS σ ρ) G H G' H'
  sub : Sub G' H'
def liftX (E : XK) (m : Ev) : TE := fun σ H _ => ∃ G ρ d, St K A σ G H ρ ∧ m ρ = .ex d ∧ ∀ cls dd G' H', NxX σ G H ρ G' H' → RepX K A G' H' cls dd d → E cls dd H'
def liftSX (E : XK) (j : Option Nat) (m : Sv) : TS := fun _ σ H => ∃ B G ρ d, StF K A j B σ G H ρ ∧ m ρ = .ex d ∧ ∀ cls dd G' H', Ext (fun p => B.O = some p) B.G B.H G' H' → Sub G' H' → RepX K A G' H' cls dd d → E cls dd H'
/-- the promise of a def that ends with an error -/
def spFx (F : Fn) (n : Nat) : Sp := fun vs H _ E => vs.length = n ∧ ∃ G ds d, Sub G H ∧ Reps K A G vs ds ∧ F ds = .ex d ∧ ∀ cls dd G' H', Nx0 G H G' H' → RepX K A G' H' cls dd d → E cls dd H'
end
theorem bind_ex {α β : Type} {r : R α} {f : α → R β} {d : D} (h : (r >>= f) = .ex d) : r = .ex d ∨ ∃ a, r = .ok a ∧ f a = .ex d := by
  cases r with
  | ok a => exact .inr ⟨a, rfl, h⟩
  | ex d' => cases h; exact .inl rfl
  | no => cases h
theorem val_ex {m : Ev} {ρ : Env} {d : D} : val m ρ = .ex d ↔ m ρ = .ex d := by
  unfold val
  constructor
  · intro h
    rcases bind_ex h with h | ⟨a, _, h⟩
    · exact h
    · cases h
  · intro h; rw [h]; rfl
section
variable {K : PySem.W.Frag} {A : CT} {G G' G1 G2 H H' H1 H2 : Hp} {σ : L2.St} {ρ ρ1 ρ2 ρ' : Env} {E : XK} {j : Option Nat} {B : Bs}
theorem NxX.after (a : Nx K A σ G H ρ G1 H1 ρ1) (b : NxX σ G1 H1 ρ1 G2 H2) : NxX σ G H ρ G2 H2 := ⟨a.ext.trans b.ext fun p ⟨i, z⟩ => .inl ⟨i, a.own i p z⟩, b.sub⟩
theorem NxX.of0 (b : Nx0 G H G' H') : NxX σ G H ρ G' H' := ⟨b.ext.weak fun _ h => h.elim, b.sub⟩
theorem StF.leave (s : StF K A j B σ G H ρ) (n : NxX σ G H ρ G' H') : Ext (fun p => B.O = some p) B.G B.H G' H' := s.ext.trans n.ext fun p ⟨i, z⟩ => by
  by_cases e : j = some i
  · exact .inl ((s.own i p z).1 e)
  · exact .inr ((s.own i p z).2 e)
end
abbrev PX (A : CT) (X : Cx) (E : XK) (e : Expr) (m : Ev) : Prop := PE X e (liftX X.K A E m)
abbrev PXS (A : CT) (j : Option Nat) (X : Cx) (E : XK) (s : Stmt) (m : Sv) : Prop := PS X s (liftSX X.K A E j m)
abbrev PXSs (A : CT) (j : Option Nat) (X : Cx) (E : XK) (s : List Stmt) (m : Sv) : Prop := PSs X s (liftSX X.K A E j m)
theorem PSs.or {X : Cx} {e : List Stmt} {t t' : TS} (h : PSs X e t) (h' : PSs X e t') : PSs X e (fun D σ H => t D σ H ∨ t' D σ H) := ⟨fun pins s σ H D I q => q.elim (h.run pins s σ H D I) (h'.run pins s σ H D I)⟩
/-! ### what ends with no error -/
def NE (m : Ev) : Prop := ∀ ρ d, m ρ ≠ .ex d
def NEs (ms : List Ev) : Prop := ∀ ρ d, evs ms ρ ≠ .ex d
def NS (m : Sv) : Prop := ∀ ρ d, m ρ ≠ .ex d
def NI (m : Iv) : Prop := ∀ ρ d, m ρ ≠ .ex d
def NG (g : Tg) : Prop := ∀ x ρ d, g x ρ ≠ .ex d
def N1 (f : D → R Rv) : Prop := ∀ x d, f x ≠ .ex d
def N2 (f : D → D → R Rv) : Prop := ∀ x y d, f x y ≠ .ex d
def NN (f : List D → R Rv) : Prop := ∀ xs d, f xs ≠ .ex d
section
variable {X : Cx} {A : CT} {E : XK} {j : Option Nat} {e : Expr} {m : Ev} {s : Stmt} {ss : List Stmt} {ms : Sv}
theorem pxs_no (h : NS ms) : PXS A j X E s ms := ⟨fun _ _ _ _ _ _ q => by obtain ⟨B, G, ρ, d, _, z, _⟩ := q; exact absurd z (h ρ d)⟩
end
theorem nex_b {α β : Type} {r : R α} {f : α → R β} (h : ∀ d, r ≠ .ex d) (k : ∀ a d, f a ≠ .ex d) (d : D) : (r >>= f) ≠ .ex d := fun z => by
  rcases bind_ex z with z | ⟨a, _, z⟩
  · exact h d z
  · exact k a d z
theorem ne_val {m : Ev} (h : NE m) (ρ : Env) (d : D) : val m ρ ≠ .ex d := fun z => h ρ d (val_ex.mp z)
theorem ne_isB (x d : D) : isB x ≠ .ex d := by cases x <;> exact fun z => nomatch z
theorem ne_look (ρ : Env) (i : Nat) (d : D) : look ρ i ≠ .ex d := fun z => by unfold look at z; split at z <;> cases z
theorem ne_pure {α : Type} {a : α} (d : D) : (pure a : R α) ≠ .ex d := fun z => nomatch z
section
variable {f g : D → D → R Rv} {f1 : D → R Rv} {fn : List D → R Rv} {a b c t : Ev} {ms : List Ev} {i : Nat}
theorem ne_var : NE (eVar i) := fun ρ d z => by unfold eVar at z; split at z <;> cases z
theorem ne_move : NE (eMove i) := fun ρ d z => by unfold eMove at z; split at z <;> cases z
theorem ne_c {x : D} : NE (eC x) := fun ρ d z => nomatch z
theorem ne_c0 {x : D} : NE (eC0 x) := fun ρ d z => nomatch z
theorem ne_bin (hf : N2 f) (ha : NE a) (hb : NE b) : NE (eBin f a b) := fun ρ d => nex_b (ne_val ha ρ) (fun x => nex_b (ne_val hb _) fun y => nex_b (hf _ _) fun _ => ne_pure) d
theorem ne_un (hf : N1 f1) (ha : NE a) : NE (eUn f1 a) := fun ρ d => nex_b (ne_val ha ρ) (fun x => nex_b (hf _) fun _ => ne_pure) d
theorem ne_bor (hf : N2 f) (hb : NE b) : NE (eBor f i b) := fun ρ d => nex_b (ne_look ρ i) (fun _ => nex_b (ne_val hb ρ) fun y => nex_b (ne_look _ i) fun _ => nex_b (hf _ _) fun _ => ne_pure) d
theorem ne_borR (hf : N2 f) (ha : NE a) : NE (eBorR f a i) := fun ρ d => nex_b (ne_val ha ρ) (fun y => nex_b (ne_look _ i) fun _ => nex_b (hf _ _) fun _ => ne_pure) d
theorem ne_bor1 (hf : N1 f1) : NE (eBor1 f1 i) := fun ρ d => nex_b (ne_look ρ i) (fun _ => nex_b (hf _) fun _ => ne_pure) d
theorem nes_nil : NEs [] := fun ρ d z => by cases (show R.ok (([] : List D), ρ) = .ex d from z)
theorem nes_cons (ha : NE a) (h : NEs ms) : NEs (a :: ms) := fun ρ d => nex_b (ne_val ha ρ) (fun _ => nex_b (h _) fun _ => ne_pure) d
theorem ne_n (hf : NN fn) (h : NEs ms) : NE (eN fn ms) := fun ρ d => nex_b (h ρ) (fun _ => nex_b (hf _) fun _ => ne_pure) d
theorem ne_if (ht : NE t) (ha : NE a) (hb : NE b) : NE (eIf t a b) := fun ρ d => nex_b (ne_val ht ρ) (fun x => nex_b (ne_isB _) fun c d => by cases c; exact hb _ d; exact ha _ d) d
theorem ne_and (ha : NE a) (hb : NE b) : NE (eAnd a b) := fun ρ d => nex_b (ne_val ha ρ) (fun x => nex_b (ne_isB _) fun c d => by cases c; exact fun z => nomatch z; exact hb _ d) d
theorem ne_or (ha : NE a) (hb : NE b) : NE (eOr a b) := fun ρ d => nex_b (ne_val ha ρ) (fun x => nex_b (ne_isB _) fun c d => by cases c; exact hb _ d; exact fun z => nomatch z) d
theorem ne_not (ha : NE a) : NE (eNot a) := fun ρ d => nex_b (ne_val ha ρ) (fun x => nex_b (ne_isB _) fun c => ne_pure) d
theorem ne_chain (hf : N2 f) (hg : N2 g) (ha : NE a) (hb : NE b) (hc : NE c) : NE (eChain f g a b c) := fun ρ d => nex_b (ne_val ha ρ) (fun x => nex_b (ne_val hb _) fun y => nex_b (hf _ _) fun r => nex_b (ne_isB _) fun k d => by cases k; exact fun z => nomatch z; exact nex_b (ne_val hc _) (fun z => nex_b (hg _ _) fun _ => ne_pure) d) d
theorem ne_get {h3 : D → D → D → R Rv} (hf : ∀ x y z d, h3 x y z ≠ .ex d) (ha : NE a) (hb : NE b) (hc : NE c) : NE (eGet h3 a b c) := fun ρ d => nex_b (ne_val ha ρ) (fun x => nex_b (ne_val hb _) fun y => nex_b (ne_val hc _) fun z => nex_b (hf _ _ _) fun _ => ne_pure) d
end
section
variable {g : Tg} {gs : List Tg} {it : Iv} {c : Option Ev} {e ek ev : Ev} {vs : List Nat} {i : Nat} {a b : Ev} {s s' : Sv} {w : Bool}
theorem ng_n : NG (gN i) := fun x ρ d z => nomatch z
theorem ng_go : (∀ g ∈ gs, NG g) → ∀ xs ρ d, gGo gs xs ρ ≠ .ex d := fun h => by
  induction gs with
  | nil => intro xs ρ d z; cases xs <;> cases z
  | cons g gs ih =>
    intro xs ρ d
    cases xs with
    | nil => exact fun z => nomatch z
    | cons x xs => exact nex_b (h g (List.mem_cons_self ..) x ρ) (fun ρ1 => ih (fun g hg => h g (List.mem_cons_of_mem _ hg)) xs ρ1) d
theorem ng_t (h : ∀ g ∈ gs, NG g) : NG (gT gs) := fun x ρ d z => by
  unfold gT at z
  split at z
  · exact ng_go h _ _ _ z
  · exact ng_go h _ _ _ z
  · cases z
theorem ngs_nil : ∀ g ∈ ([] : List Tg), NG g := fun g h => nomatch h
theorem ngs_cons (h : NG g) (r : ∀ g ∈ gs, NG g) : ∀ x ∈ g :: gs, NG x := fun x hx => by
  rcases List.mem_cons.mp hx with rfl | hx
  · exact h
  · exact r x hx
theorem ne_items (x d : D) : items x ≠ .ex d := by cases x <;> exact fun z => nomatch z
theorem ni_val (h : NE e) : NI (iVal e) := fun ρ d => nex_b (ne_val h ρ) (fun x => nex_b (ne_items _) fun _ => ne_pure) d
theorem ni_range {ms : List Ev} (h : NEs ms) : NI (iRange ms) := fun ρ d => nex_b (h ρ) (fun x d => by dsimp only; split <;> (try split) <;> exact fun z => nomatch z) d
theorem ni_en (h : NE e) : NI (iEn e) := fun ρ d => nex_b (ne_val h ρ) (fun x => nex_b (fun d z => ne_items _ _ z) fun _ => ne_pure) d
theorem ni_keys : NI (iKeys i) := fun ρ d z => by unfold iKeys at z; split at z <;> cases z
def NC : Option Ev → Prop
  | none => True
  | some t => NE t
theorem ne_cond (h : NC c) (ρ : Env) (d : D) : cond c ρ ≠ .ex d := by
  cases c with
  | none => exact fun z => nomatch z
  | some t => exact nex_b (ne_val h ρ) (fun x => nex_b (ne_isB _) fun _ => ne_pure) d
theorem ne_lc (hi : NI it) (hg : NG g) (hc : NC c) (he : NE e) : NE (eLc it g c e vs) := fun ρ d => nex_b (hi ρ) (fun x d => by
  dsimp only
  split
  · refine nex_b (fun d => ?_) (fun _ => ne_pure) d
    have : ∀ ds acc ρ d, lcGo g c e vs ds acc ρ ≠ .ex d := fun ds => by
      induction ds with
      | nil => exact fun _ _ _ z => nomatch z
      | cons x ds ih =>
        intro acc ρ d
        exact nex_b (hg x _) (fun ρ1 => nex_b (ne_cond hc _) fun k d => by
          dsimp only
          split
          · exact nex_b (ne_val he _) (fun y => ih _ _) d
          · exact ih _ _ d) d
    exact this _ _ _ _
  · exact fun z => nomatch z) d
theorem ns_next : NS sNext := fun ρ d z => nomatch z
theorem ns_no : NS sNo := fun ρ d z => nomatch z
theorem ns_seq (h : NS s) (h' : NS s') : NS (sSeq s s') := fun ρ d => nex_b (h ρ) (fun x d => by dsimp only; split; exact h' _ d; exact fun z => nomatch z) d
theorem ns_asg (h : NE e) : NS (sAsg w i e) := fun ρ d => nex_b (h ρ) (fun _ => ne_pure) d
theorem ns_expr (h : NE e) : NS (sExpr e) := fun ρ d => nex_b (ne_val h ρ) (fun _ => ne_pure) d
theorem ns_ret (h : NE e) : NS (sRet e) := fun ρ d => nex_b (h ρ) (fun _ => ne_pure) d
theorem ns_retV : NS (sRetV i) := fun ρ d => nex_b (ne_move ρ) (fun _ => ne_pure) d
theorem ns_retN : NS sRetN := fun ρ d z => nomatch z
theorem ns_if (ht : NE e) (ha : NS s) (hb : NS s') : NS (sIf e s s') := fun ρ d => nex_b (ne_val ht ρ) (fun x => nex_b (ne_isB _) fun c d => by cases c; exact hb _ d; exact ha _ d) d
theorem ns_asgT (hg : NG g) (h : NE e) : NS (sAsgT g e) := fun ρ d => nex_b (ne_val h ρ) (fun x => nex_b (hg _ _) fun _ => ne_pure) d
theorem ns_fld {cc k : Nat} (h : NE e) : NS (sFld cc k e) := fun ρ d => nex_b (ne_val h ρ) (fun x d => by dsimp only; split <;> (try split) <;> exact fun z => nomatch z) d
theorem ns_par {k : Nat} (ha : NE a) (hb : NE b) : NS (sPar w i k a b) := fun ρ d => nex_b (ha ρ) (fun x => nex_b (hb _) fun _ => ne_pure) d
end
/-! operations -/
theorem n2_no : N2 no2 := fun _ _ _ z => nomatch z
theorem n1_no : N1 no1 := fun _ _ z => nomatch z
theorem n2_add {own : D → D → R Rv} (h : N2 own) : N2 (addD own) := fun x y d z => by unfold addD at z; split at z <;> first | exact h _ _ _ z | (split at z <;> cases z) | cases z
theorem n2_sub {own : D → D → R Rv} (h : N2 own) : N2 (subD own) := fun x y d z => by unfold subD at z; split at z <;> first | exact h _ _ _ z | (split at z <;> cases z) | cases z
theorem n2_mul {own : D → D → R Rv} (h : N2 own) : N2 (mulD own) := fun x y d z => by unfold mulD at z; split at z <;> first | exact h _ _ _ z | (split at z <;> cases z) | cases z
theorem n2_fdiv : N2 fdivD := fun x y d z => by unfold fdivD at z; split at z <;> first | (split at z <;> cases z) | cases z
theorem n2_mod : N2 modD := fun x y d z => by unfold modD at z; split at z <;> first | (split at z <;> cases z) | cases z
theorem n2_pow : N2 powD := fun x y d z => by unfold powD at z; split at z <;> first | (split at z <;> cases z) | cases z
theorem n1_neg {own : D → R Rv} (h : N1 own) : N1 (negD own) := fun x d z => by unfold negD at z; split at z <;> first | exact h _ _ z | cases z
theorem n2_lt : N2 ltD := fun x y d z => by unfold ltD at z; split at z <;> cases z
theorem n2_le : N2 leD := fun x y d z => by unfold leD at z; split at z <;> cases z
theorem n2_gt : N2 gtD := fun x y d z => by unfold gtD at z; split at z <;> cases z
theorem n2_ge : N2 geD := fun x y d z => by unfold geD at z; split at z <;> cases z
theorem n2_eq {own : D → D → R Rv} (h : N2 own) : N2 (eqD own) := fun x y d z => by
  unfold eqD at z
  split at z
  · cases z
  · cases z
  · cases z
  · unfold eqG at z
    split at z
    · cases z
    · exact h _ _ _ z
theorem n2_ne {own : D → D → R Rv} (h : N2 own) : N2 (neD own) := fun x y d z => by
  unfold neD at z
  split at z
  · cases z
  · cases z
  · cases z
  · unfold neG at z
    split at z
    · cases z
    · exact nex_b (h _ _) (fun r => nex_b (ne_isB _) fun b d z => by cases z) d z
theorem n2_isN : N2 isN := fun x y d z => by unfold isN at z; split at z <;> cases z
theorem n2_notN : N2 notN := fun x y d z => by unfold notN at z; split at z <;> cases z
theorem ne_key (x d : D) : keyOf x ≠ .ex d := fun z => by cases x <;> cases z
theorem ne_keys : ∀ (xs : List D) (d : D), keysOf xs ≠ .ex d
  | [], d => fun z => by cases (show R.no = R.ex d from z)
  | [x], d => nex_b (ne_key x) (fun _ => ne_pure) d
  | x :: y :: xs, d => nex_b (ne_key x) (fun _ => nex_b (ne_keys (y :: xs)) fun _ => ne_pure) d
theorem ne_inB (x y d : D) : inB x y ≠ .ex d := fun z => by
  unfold inB at z
  split at z <;> first | exact nex_b (ne_keys _) (fun _ => ne_pure) d z | (split at z <;> cases z) | cases z
theorem n2_in : N2 inD := fun x y d => nex_b (ne_inB x y) (fun b d z => by cases z) d
theorem n2_nin : N2 ninD := fun x y d => nex_b (ne_inB x y) (fun b d z => by cases z) d
theorem ne_opt (o : Option D) (d : D) : opt o ≠ .ex d := by cases o <;> exact fun z => nomatch z
theorem n2_ix : N2 ixD := fun x y d z => by
  unfold ixD at z
  split at z <;> first | exact ne_opt _ _ z | (split at z <;> first | exact ne_opt _ _ z | cases z) | exact nex_b (ne_keys _) (fun _ => ne_opt _) d z | cases z
theorem ne_part {e : Option Ev} (h : NC e) (ρ : Env) (d : D) : part e ρ ≠ .ex d := by
  cases e with
  | none => exact fun z => by cases z
  | some e => exact nex_b (ne_val h ρ) (fun x d z => by dsimp only at z; split at z <;> cases z) d
theorem ne_slice {a : Ev} {lo hi : Option Ev} (ha : NE a) (hl : NC lo) (hh : NC hi) : NE (eSlice a lo hi) := fun ρ d => nex_b (ne_val ha ρ) (fun x => nex_b (ne_part hl _) fun l => nex_b (ne_part hh _) fun h => nex_b (fun d z => by unfold sliceD at z; split at z <;> first | (split at z <;> cases z) | cases z) fun _ => ne_pure) d
theorem n1_len {own : D → R Rv} (h : N1 own) : N1 (lenB own) := fun x d z => by unfold lenB at z; split at z <;> first | exact h _ _ z | (split at z <;> cases z) | cases z
theorem nn_len {own : D → R Rv} (h : N1 own) : NN (lenD own) := fun xs d z => by unfold lenD at z; split at z; exact n1_len h _ _ z; cases z
theorem nn_isi : NN isiD := fun xs d z => by unfold isiD at z; split at z <;> first | (split at z <;> cases z) | cases z
theorem nn_abs : NN absD := fun xs d z => by unfold absD at z; split at z <;> cases z
theorem nn_int : NN intD := fun xs d z => by unfold intD at z; split at z <;> cases z
theorem ne_bools : ∀ (xs : List D) (d : D), boolsOf xs ≠ .ex d
  | [], d => fun z => by cases (show R.ok _ = R.ex d from z)
  | x :: xs, d => fun z => by
    cases x <;> first | exact nex_b (ne_bools xs) (fun _ => ne_pure) d z | cases z
theorem nn_all : NN allD := fun xs d z => by unfold allD at z; split at z; exact nex_b (ne_bools _) (fun _ d z => by cases z) d z; cases z
theorem nn_any : NN anyD := fun xs d z => by unfold anyD at z; split at z; exact nex_b (ne_bools _) (fun _ d z => by cases z) d z; cases z
theorem ne_strs : ∀ (xs : List D) (d : D), strsOf xs ≠ .ex d
  | [], d => fun z => by cases (show R.ok _ = R.ex d from z)
  | x :: xs, d => fun z => by
    cases x <;> first | exact nex_b (ne_strs xs) (fun _ => ne_pure) d z | cases z
theorem nn_tuple : NN tupleD := fun xs d z => by unfold tupleD at z; split at z <;> cases z
theorem nn_tup : NN mkTup := fun xs d z => by unfold mkTup at z; split at z <;> cases z
theorem nn_lst : NN mkLst := fun xs d z => by unfold mkLst at z; split at z <;> cases z
theorem nn_mkey : NN mkKey := fun xs d z => by unfold mkKey at z; split at z <;> cases z
theorem n2_join : N2 joinB := fun x y d z => by
  unfold joinB joinD at z
  split at z
  · exact nex_b (ne_strs _) (fun _ d z => by split at z <;> cases z) d z
  · cases z
theorem n1_fld {c k : Nat} : N1 (fldD c k) := fun x d z => by unfold fldD at z; split at z; split at z; exact ne_opt _ _ z; cases z; cases z
theorem n3_get (x y z d : D) : dgetD x y z ≠ .ex d := fun h => by unfold dgetD at h; split at h <;> first | exact nex_b (ne_keys _) (fun _ _ z => by cases z) d h | cases h
/-! calls that are asked for no error -/
def npR {α : Type} : R α → R α
  | .ex _ => .no
  | r => r
theorem npR_ok {α : Type} {r : R α} {a : α} : npR r = .ok a ↔ r = .ok a := by cases r <;> simp [npR]
theorem ne_np {α : Type} (r : R α) (d : D) : npR r ≠ .ex d := by cases r <;> exact fun z => nomatch z
/-- a def, asked for no error -/
def pF (F : Fn) : Fn := fun ds => npR (F ds)
def pR (F : FnR) : FnR := fun ds d => npR (F ds d)
def p2 (f : D → D → R Rv) : D → D → R Rv := fun x y => npR (f x y)
theorem nn_pF {F : Fn} : NN (pF F) := fun xs d => ne_np _ d
theorem n2_p {f : D → D → R Rv} : N2 (p2 f) := fun x y d => ne_np _ d
theorem pF_ok {F : Fn} {ds : List D} {r : Rv} (h : pF F ds = .ok r) : F ds = .ok r := npR_ok.mp h
end DY

set_option Elab.async false
set_option linter.all false
set_option maxRecDepth 100000
set_option maxHeartbeats 4000000
/-! ### rules where an error comes -/
namespace DY
open PySem L2 PySem.Spec PyProof.Rows
variable [Tb]
section
variable {K : PySem.W.Frag} {A : CT} {G G' G1 G2 H H' H1 H2 : Hp} {σ : L2.St} {ρ ρ1 ρ2 ρ' : Env} {E : XK} {j : Option Nat} {B : Bs} {Q Q' : VK} {ma mb : Ev} {ms : List Ev}
/-- the error of the first part -/
theorem lx_fst {m : Ev} (h : ∀ ρ d, m ρ = .ex d → ma ρ = .ex d) (q : liftX K A E m σ H Q) : liftX K A E ma σ H Q' := by
  obtain ⟨G, ρ, d, s, e, k⟩ := q
  exact ⟨G, ρ, d, s, h ρ d e, k⟩
theorem lx_n1 {f : List D → R Rv} (hf : NN f) (q : liftX K A E (eN f [ma]) σ H Q) : liftX K A E ma σ H Q' := lx_fst (fun ρ d e => by
  rcases bind_ex e with e | ⟨a, _, e⟩
  · rcases bind_ex e with e | ⟨b, _, e⟩
    · exact val_ex.mp e
    · exact absurd e (nex_b (nes_nil _) (fun _ => ne_pure) d)
  · exact absurd e (nex_b (hf _) (fun _ => ne_pure) d)) q
/-- behind the arguments -/
theorem n_useX {F : Fn} (hn : NEs ms) (h : liftX K A E (eN F ms) σ H Q) : liftA K A ms σ H fun vs H1 => ∃ G ds d, Sub G H1 ∧ Reps K A G vs ds ∧ F ds = .ex d ∧ ∀ cls dd G' H', Nx0 G H1 G' H' → RepX K A G' H' cls dd d → E cls dd H' := by
  obtain ⟨G, ρ, d, s, e, k⟩ := h
  rcases bind_ex e with e | ⟨⟨ds, ρ1⟩, e1, e⟩
  · exact absurd e (hn _ _)
  · rcases bind_ex e with e | ⟨r, _, e⟩
    · exact ⟨G, ρ, ds, ρ1, s, e1, fun vs G1 H1 n1 r1 => ⟨G1, ds, d, n1.st.sub, r1, e, fun cls dd G' H' n0 rx => k cls dd G' H' (NxX.after n1 (NxX.of0 n0)) rx⟩⟩
    · exact absurd e (ne_pure _)
end
section
variable {X : Cx} {A : CT} {CX : CXT} {k n : Nat} {f C : Addr} {fd : FuncData} {ps knm : List Str} {E : XK} {x m : Str} {p pos apos : Pos} {a b e : Expr} {es : List Expr} {ma mb : Ev} {ms ks : List Ev} {kws : List Keyword}
theorem mkFn_lenX {nn p : Nat} {body : Sv} : ∀ ds d, mkFn nn p body ds = .ex d → ds.length = p := fun ds d h => by
  unfold mkFn at h
  split at h
  · assumption
  · cases h
/-! methods -/
end
end DY

set_option Elab.async false
set_option linter.all false
set_option maxRecDepth 100000
set_option maxHeartbeats 4000000
namespace DY
open PySem L2 PySem.Spec PyProof.Rows
variable [Tb]
/-- raise C(e) -/
def sRaise (c : Nat) (m : Ev) : Sv := fun ρ => do
  let (x, _) ← val m ρ
  .ex (.ins c [x])
section
variable {X : Cx} {A : CT} {E : XK} {j : Option Nat} {st : Stmt} {rest : List Stmt} {m m' : Sv} {e c : Expr} {me mc : Ev} {pos pos' : Pos}
theorem pxss_one (h : PXS A j X E st m) : PXSs A j X E [st] m := pss_one h
theorem pxss_nil : PXSs A j X E [] sNext := ⟨fun _ _ _ _ _ _ q => by obtain ⟨B, G, ρ, d, _, z, _⟩ := q; cases z⟩
theorem pxss_cons (h1 : PDS A j X st m) (h1x : PXS A j X E st m) (h2x : PXSs A j X E rest m') : PXSs A j X E (st :: rest) (sSeq m m') := PSs.imp (PSs.or (pss_cons h1x h2x) (pss_cons h1 h2x)) fun D σ H h => by
  obtain ⟨B, G, ρ, d, s, e, k⟩ := h
  rcases bind_ex e with e | ⟨⟨o, ρ1⟩, e1, e⟩
  · exact .inl ⟨B, G, ρ, d, s, e, k⟩
  · refine .inr ⟨B, G, ρ, o, ρ1, s, e1, ?_⟩
    cases o with
    | nx => exact fun σ' G' H' s' => ⟨B, G', ρ1, d, s', e, k⟩
    | bk => cases e
    | ct => cases e
    | rt r => cases e
theorem pxs_if {sa sb : List Stmt} (hn : NE mc) (hc : PDT A X c mc) (ha : PXSs A j X E sa m) (hb : PXSs A j X E sb m') : PXS A j X E (.If c sa sb pos) (sIf mc m m') := PS.imp (ps_if hc ha hb) fun D σ H h => by
  obtain ⟨B, G, ρ, d, s, e, k⟩ := h
  rcases bind_ex e with e | ⟨⟨x, ρ1⟩, e1, e⟩
  · exact absurd e (ne_val hn _ _)
  rcases bind_ex e with e | ⟨c, e2, e⟩
  · exact absurd e (ne_isB _ _)
  cases isB_ok e2
  refine ⟨G, ρ, c, ρ1, s.st, e1, fun G1 H1 n => ?_⟩
  cases c with
  | true => exact iteT ⟨B, G1, ρ1, d, s.step n, e, k⟩
  | false => exact iteF ⟨B, G1, ρ1, d, s.step n, e, k⟩
/-- raise C(e) -/
theorem pxs_raise {cc : Nat} {C fI : Addr} {n x : Str} {p p2 : Pos} (hC : A.ad cc = C) (hm : cc ∈ A.xs) (hn : A.nms cc = [n]) (T : SL.XC X.K C fI n) (N : SL.XN n) (hr : L2.Room 1 X.A) (hg : Gl X x) (hmg : X.mg x = some (.ref C)) (hc : X.calm = true) (tk : Takes X (fun cls d _ H => E cls d H)) (ne : NE me) (he : PDA A X [e] [me])
    (hdb : (x == ("__debug__" : Str)) = false := by decide) (hst : starEach [e] X.env = (false, eval e X.env) :: starEach [] X.env := by rfl) (hpl : (backTo p2 (starEach [] X.env)).any (·.1) = false := by rfl) :
    PXS A j X E (.Raise (some (.Call (.Name x p) [e] [] p2)) none pos) (sRaise cc me) := PS.imp (ps_raise hc tk (SL.pmk_x T N hr hg hmg he hdb hst hpl)) fun D σ H h => by
  obtain ⟨B, G, ρ, d, s, e, k⟩ := h
  rcases bind_ex e with e | ⟨⟨y, ρ1⟩, e1, e⟩
  · exact absurd e (ne_val ne _ _)
  cases e
  have ev : evs [me] ρ = .ok ([y], ρ1) := by show (do let (x, ρ1) ← val me ρ; let (xs, ρ2) ← evs [] ρ1; pure (x :: xs, ρ2)) = _; rw [e1]; rfl
  refine ⟨G, ρ, [y], ρ1, s.st, ev, fun vs G1 H1 n1 r1 => ?_⟩
  obtain ⟨v, rfl, rv⟩ := r1.inv1
  refine ⟨v, rfl, fun dx hdx => ?_⟩
  have n0 := nx0_new (o := .xd [(n, v)]) n1.st.sub hdx
  exact k _ _ (upd G1 dx (.xd [(n, v)])) _ (s.leave (NxX.after n1 (NxX.of0 n0))) n0.sub ⟨cc, y, n, v, dx, rfl, hm, by rw [hC], hn, rfl, upd_same, rv.mono n0.ext.gs⟩
/-! a loop -/
end
/-! ### a def's promise -/
section
variable {K : PySem.W.Frag} {A : CT} {H : Hp} {Q : VK}
theorem enter_FX {N : List Str} {n p : Nat} {body : Sv} {vs : List V} {E : XK} {D : Ends} (hn : N.length = n) (hp : p ≤ n) (h : spFx K A (mkFn n p body) p vs H Q E) : liftSX K A E none body D (L2.start N vs) H := by
  obtain ⟨_, G, ds, d, s, rs, e, k⟩ := h
  unfold mkFn at e
  split at e
  · rename_i hl
    rcases bind_ex e with e | ⟨⟨o, ρ'⟩, _, e⟩
    · have s0 := start_st (N := N) hn s rs (by omega)
      exact ⟨⟨G, H, none⟩, G, slots n ds, d, ⟨s0, Ext.refl _ _ _, fun i p z => absurd z (noOwn_start i p)⟩, e, fun cls dd G' H' x sb rx => k cls dd G' H' ⟨x.weak (fun p w => nomatch w), sb⟩ rx⟩
    · cases o <;> cases e
  · cases e
end
end DY

set_option Elab.async false
set_option linter.all false
set_option maxRecDepth 100000
set_option maxHeartbeats 4000000
namespace DY
open PySem L2 PySem.Spec PyProof.Rows LamX
/-! ### what a lambda sees: the slots that it names, their objects given up -/
def giveB : List Bool → Env → Env
  | true :: bs, .ow d :: ρ => .sh d :: giveB bs ρ
  | true :: bs, s :: ρ => s :: giveB bs ρ
  | false :: bs, s :: ρ => s :: giveB bs ρ
  | _, ρ => ρ
def maskB : List Bool → Env → Env
  | true :: bs, s :: ρ => s :: maskB bs ρ
  | false :: bs, _ :: ρ => .un :: maskB bs ρ
  | [], _ :: ρ => .un :: maskB [] ρ
  | _, [] => []
/-- told(lambda: m): what it gives, or what F says of its error -/
def eTold (F : D → R Rv) (ret : List Nat) (bs : List Bool) (m : Ev) : Ev := fun ρ =>
  match m (maskB bs (giveB bs ρ)) with
  | .ok (r, _) => .ok ((.lst [.str ret, r.1], true), giveB bs ρ)
  | .ex d => do
    let r ← F d
    pure (r, giveB bs ρ)
  | .no => .no
variable [Tb]
section
variable {K : PySem.W.Frag} {A : CT} {G G' G1 G2 H H' H1 H2 : Hp} {σ : L2.St} {ρ ρ1 ρ2 ρ' : Env} {Q Q' : VK}
theorem nx_give : ∀ (bs : List Bool) (ρ pre : Env) (G : Hp), St K A σ G H (pre ++ ρ) → ∃ G2, Nx K A σ G H (pre ++ ρ) G2 H (pre ++ giveB bs ρ)
  | [], ρ, pre, G, s => ⟨G, by have e : giveB [] ρ = ρ := by cases ρ <;> rfl
                               rw [e]; exact Nx.refl s⟩
  | b :: bs, [], pre, G, s => ⟨G, by have e : giveB (b :: bs) [] = [] := by cases b <;> rfl
                                     rw [e]; exact Nx.refl s⟩
  | b :: bs, x :: ρ, pre, G, s => by
    have go : ∀ (x' : Slot) (G1 : Hp), Nx K A σ G H (pre ++ x :: ρ) G1 H (pre ++ x' :: ρ) → ∃ G2, Nx K A σ G H (pre ++ x :: ρ) G2 H (pre ++ x' :: giveB bs ρ) := fun x' G1 n => by
      have e : ∀ r : Env, pre ++ x' :: r = (pre ++ [x']) ++ r := fun r => by simp
      have n' := n
      rw [e] at n'
      obtain ⟨G2, n2⟩ := nx_give bs ρ (pre ++ [x']) G1 n'.st
      rw [← e, ← e] at n2
      exact ⟨G2, n.trans n2⟩
    cases b with
    | false => exact go x G (Nx.refl s)
    | true =>
      cases x with
      | un => exact go _ G (Nx.refl s)
      | sh d => exact go _ G (Nx.refl s)
      | ow d =>
        obtain ⟨p, G2, _, n, _⟩ := s.give (i := pre.length) (d := d) (by simp)
        have e : (pre ++ Slot.ow d :: ρ).set pre.length (.sh d) = pre ++ .sh d :: ρ := by
          rw [List.set_append_right _ _ (Nat.le_refl _)]; simp
        rw [e] at n
        exact go _ G2 n
theorem maskB_len : ∀ (bs : List Bool) (ρ : Env), (maskB bs ρ).length = ρ.length
  | [], [] => rfl
  | [], s :: ρ => by simp [maskB, maskB_len [] ρ]
  | b :: bs, [] => by cases b <;> rfl
  | true :: bs, s :: ρ => by simp [maskB, maskB_len bs ρ]
  | false :: bs, s :: ρ => by simp [maskB, maskB_len bs ρ]
/-- what is seen: a shared slot of the given ones, or nothing -/
theorem mask_at : ∀ (bs : List Bool) (ρ : Env) (i : Nat) (z : Slot), (maskB bs (giveB bs ρ))[i]? = some z → z = .un ∨ ((giveB bs ρ)[i]? = some z ∧ ∀ d, z ≠ .ow d)
  | [], [], i, z, h => by cases i <;> cases h
  | [], s :: ρ, 0, z, h => by cases h; exact .inl rfl
  | [], s :: ρ, i + 1, z, h => by
    have e : giveB [] ρ = ρ := by cases ρ <;> rfl
    have := mask_at [] ρ i z (by rw [e]; exact h)
    rw [e] at this
    exact this
  | b :: bs, [], i, z, h => by cases b <;> cases i <;> cases h
  | true :: bs, s :: ρ, 0, z, h => by
    cases s with
    | un => cases h; exact .inl rfl
    | sh d => cases h; exact .inr ⟨rfl, fun _ z => nomatch z⟩
    | ow d => cases h; exact .inr ⟨rfl, fun _ z => nomatch z⟩
  | false :: bs, s :: ρ, 0, z, h => by cases h; exact .inl rfl
  | true :: bs, s :: ρ, i + 1, z, h => by cases s <;> exact mask_at bs ρ i z h
  | false :: bs, s :: ρ, i + 1, z, h => mask_at bs ρ i z h
theorem mask_noOwn (bs : List Bool) : ∀ i p, ¬ Own σ (maskB bs (giveB bs ρ)) i p := fun i p ⟨⟨d, h⟩, _⟩ => by
  rcases mask_at bs ρ i _ h with z | ⟨_, z⟩
  · cases z
  · exact z d rfl
theorem mask_st (bs : List Bool) (s : St K A σ G H (giveB bs ρ)) : St K A σ G H (maskB bs (giveB bs ρ)) := by
  refine ⟨s.sub, by rw [maskB_len]; exact s.len, fun i z hz => ?_, fun i j p h => absurd h (mask_noOwn bs i p)⟩
  rcases mask_at bs ρ i z hz with rfl | ⟨e, _⟩
  · trivial
  · exact s.slot i z e
/-- a lambda was made -/
theorem lam_ext {P : Addr} {q : Str} {O : Addr → Prop} (l : SL.LamH P q H H1) (t : Tabs Tb.T H1) (s : Sub G H) : Ext O G H G H1 ∧ Sub G H1 := by
  refine ⟨⟨fun _ _ z => z, fun _ z => .inl z, fun p o h _ n => l.keep h n, fun p h => l.there h⟩, fun p o h => ?_, t, s.nt, s.bs⟩
  rcases s p o h with z | ⟨d, ob, z⟩
  · exact .inl (l.keep z fun ps e => s.nt p ps (by rw [h, e]))
  · exact .inr ⟨d, ob, l.keep z fun ps e => nomatch e⟩
theorem liftE_mono {m : Ev} (k : ∀ v H', Q v H' → Q' v H') (h : liftE K A m σ H Q) : liftE K A m σ H Q' := by
  obtain ⟨G, ρ, r, ρ', s, e, q⟩ := h
  exact ⟨G, ρ, r, ρ', s, e, fun v G' H' n rr => k _ _ (q v G' H' n rr)⟩
/-- the promise of the def that tells an error -/
def spX (K : PySem.W.Frag) (A : CT) (F : D → R Rv) : SL.SpX := fun cls dd H Q => ∃ G d r, Sub G H ∧ RepX K A G H cls dd d ∧ F d = .ok r ∧ ∀ v G' H', Nx0 G H G' H' → RepN K A H G' H' v r → Q v H'
theorem RepR.back {O : Addr → Prop} {v : V} {r : Rv} {H0 : Hp} (th : ∀ p, H0 p ≠ none → H p ≠ none) (h : RepR K A O H G' H' v r) : RepR K A O H0 G' H' v r := by
  unfold RepR at *
  split at h
  · rename_i q
    rw [if_pos q]
    obtain ⟨p, e, h1, h2, h3, h4⟩ := h
    exact ⟨p, e, h1, h2, h3, by cases z : H0 p with
      | none => rfl
      | some o => exact absurd h4 (th p (by rw [z]; exact fun x => nomatch x))⟩
  · rename_i q
    rw [if_neg q]
    exact h
theorem told_use {P : Addr} {q : Str} {F : D → R Rv} {ret : List Nat} {bs : List Bool} {m : Ev} {mm : Value → Bool} (hm : ∀ c ∈ A.xs, mm (.ref (A.ad c)) = true) (h : liftE K A (eTold F ret bs m) σ H Q) :
    SL.tTold Tb.T P q mm (S ret) (spX K A F) (fun E σ H Q => liftE K A m σ H Q ∨ liftX K A E m σ H Q) σ H Q := by
  obtain ⟨G, ρ, r, ρ', s, e, k⟩ := h
  refine ⟨s.sub.tb, fun H1 l t1 => ?_⟩
  obtain ⟨G2, n2⟩ := nx_give bs ρ [] G s
  rw [List.nil_append, List.nil_append] at n2
  obtain ⟨x3, s3⟩ := lam_ext (O := fun _ => False) l t1 n2.st.sub
  have n3 : Nx K A σ G H ρ G2 H1 (giveB bs ρ) := n2.trans (n2.st.nx0 ⟨x3, s3⟩)
  have sm := mask_st bs n3.st
  have out : ∀ {G' H'}, Ext (OwnS σ (maskB bs (giveB bs ρ))) G2 H1 G' H' → Sub G' H' → Nx0 G2 H1 G' H' := fun x sb => ⟨x.weak fun p ⟨i, z⟩ => mask_noOwn bs i p z, sb⟩
  unfold eTold at e
  split at e
  · rename_i r0 ρ0 em
    cases e
    refine .inl ⟨G2, _, r0, ρ0, sm, em, fun v G' H' n rr p hp => ?_⟩
    obtain ⟨G4, n4, r4, _⟩ := n.frz rr
    have n5 : Nx K A σ G H ρ G4 H' (giveB bs ρ) := n3.trans (n3.st.nx0 (out n4.ext n4.st.sub))
    obtain ⟨n6, r6⟩ := new_lst (K := K) (A := A) (vs := [.str (S ret), v]) (ds := [.str ret, r0.1]) n4.st.sub hp (.cons (.str _) (.cons r4 .nil))
    have n7 := n5.trans (n5.st.nx0 n6)
    exact k _ _ _ n7 (RepR.back n5.ext.there (r6.r n5.st))
  · rename_i d em
    obtain ⟨rr1, e1, e2⟩ := bind_ok e
    cases e2
    refine .inr ⟨G2, _, d, sm, em, fun cls dd G' H' n rx => ?_⟩
    refine ⟨?_, G', d, _, n.sub, rx, e1, fun v G4 H4 n4 rr => ?_⟩
    · obtain ⟨c, x, nn, v, p, _, hc, rfl, _⟩ := rx
      exact hm c hc
    · have n5 : Nx K A σ G H ρ G' H' (giveB bs ρ) := n3.trans (n3.st.nx0 (out n.ext n.sub))
      exact k _ _ _ (n5.trans (n5.st.nx0 n4)) (RepR.back n5.ext.there (rr.r n5.st))
  · cases e
end
end DY

set_option Elab.async false
set_option linter.all false
set_option maxRecDepth 100000
set_option maxHeartbeats 4000000
/-! ### the def that tells the classes and the attribute of an error -/
namespace DY
open PySem L2 PySem.Spec PyProof.Rows LamX
/-- the error has the number 99; classes of errors are values -/
def CT.err (A : CT) (a : Addr) (l : List Nat) : CT := { A with ad := fun n => if n = 99 then a else A.ad n, cs := 99 :: (l ++ A.cs) }
section
variable {K : PySem.W.Frag} {A A' : CT} {G : Hp}
structure CT.Le (A A' : CT) : Prop where
  cs : ∀ c ∈ A.cs, c ∈ A'.cs
  ad : ∀ c ∈ A.cs, A'.ad c = A.ad c
  nms : ∀ c, A'.nms c = A.nms c
mutual
theorem Rep.chg (h : A.Le A') : ∀ {v : V} {d : D}, Rep K A G v d → Rep K A' G v d
  | _, _, .non => .non
  | _, _, .bl b => .bl b
  | _, _, .int i => .int i
  | _, _, .str l => .str l
  | _, _, .ty t => .ty t
  | _, _, .cls c hc => by rw [← h.ad c hc]; exact .cls c (h.cs c hc)
  | _, _, .any v => .any v
  | _, _, .lst e r => .lst e (Reps.chg h r)
  | _, _, .fls e r => .fls e (Reps.chg h r)
  | _, _, .tup n e r => .tup n e (Reps.chg h r)
  | _, _, .emp a b c d => .emp a b c d
  | _, _, .kt e r => .kt e (Reps.chg h r)
  | _, _, .dic e r => .dic e (RepK.chg h r)
  | _, _, .dct e r => .dct e (RepT.chg h r)
  | _, _, .ins e l c r => .ins (by rw [h.ad _ c, h.nms]; exact e) (by rw [h.nms]; exact l) (h.cs _ c) (Reps.chg h r)
theorem Reps.chg (h : A.Le A') : ∀ {vs : List V} {ds : List D}, Reps K A G vs ds → Reps K A' G vs ds
  | _, _, .nil => .nil
  | _, _, .cons e r => .cons (Rep.chg h e) (Reps.chg h r)
theorem RepK.chg (h : A.Le A') : ∀ {vs : List (Key × V)} {ds : List (Ky × D)}, RepK K A G vs ds → RepK K A' G vs ds
  | _, _, .nil => .nil
  | _, _, .cons e r => .cons (Rep.chg h e) (RepK.chg h r)
theorem RepT.chg (h : A.Le A') : ∀ {vs : List (List Key × V)} {ds : List (List Ky × D)}, RepT K A G vs ds → RepT K A' G vs ds
  | _, _, .nil => .nil
  | _, _, .cons e r => .cons (Rep.chg h e) (RepT.chg h r)
end
theorem CT.le_err {a : Addr} {l : List Nat} (n : 99 ∉ A.cs) : A.Le (A.err a l) :=
  ⟨fun c h => List.mem_cons_of_mem _ (List.mem_append_right _ h), fun c h => if_neg fun (z : c = 99) => n (z ▸ h), fun _ => rfl⟩
def isStr : D → Bool
  | .str _ => true
  | _ => false
def texts : D → Bool
  | .lst ds => ds.all isStr
  | _ => false
theorem reps_str {A' : CT} : ∀ {ds : List D} {vs : List V}, ds.all isStr = true → Reps K A G vs ds → Reps K A' G vs ds
  | [], _, _, h => by cases h; exact .nil
  | d :: ds, _, e, h => by
    cases h with
    | cons r rs =>
      simp only [List.all_cons, Bool.and_eq_true] at e
      cases d with
      | str l => cases r; exact .cons (.str l) (reps_str e.2 rs)
      | _ => cases e.1
end
/-- what the def gives -/
def runS (n : Nat) (mb : Nat → D → Sv) : D → R Rv := fun d =>
  match d with
  | .ins c [x] => do
    let r ← mkFn n 1 (mb c x) [.cls 99]
    if r.2 = true ∧ texts r.1 = true then .ok r else .no
  | _ => .no
/-- isinstance(e, y) by a table -/
def isxD (c : Nat) (f : Nat → D → Option Bool) : List D → R Rv
  | [.cls 99, y] => match f c y with
    | some b => .ok (.bl b, false)
    | none => .no
  | _ => .no
/-- e.n -/
def atxD (c : Nat) (g : Nat → Bool) (x : D) : D → R Rv
  | .cls 99 => if g c = true then .ok (x, false) else .no
  | _ => .no
theorem sub_to {G H : Hp} {i j : Tb} (h : @Sub i G H) (ht : i.T = j.T) (b : L2.Same j.base G) : @Sub j G H := by
  obtain ⟨h1, h2, h3, h4⟩ := h
  exact @Sub.mk j G H h1 (ht ▸ h2) h3 b
theorem same_of {G H : Hp} (i : Tb) (h : @Sub i G H) : L2.Same i.base G := h.bs
theorem nx0_to {G H G' H' : Hp} {i j : Tb} (h : @Nx0 i G H G' H') (ht : i.T = j.T) (b : L2.Same j.base G') : @Nx0 j G H G' H' := by
  obtain ⟨h1, h2⟩ := h
  exact @Nx0.mk j G H G' H' h1 (sub_to h2 ht b)
theorem nx0_gs {G H G' H' : Hp} (i : Tb) (h : @Nx0 i G H G' H') : L2.Same G G' := h.ext.gs
variable [Tb]
/-- what is known of the error in the def -/
structure ErrAt (A : CT) (X : Cx) (c : Nat) (x : D) : Prop where
  ex : ∃ oe p n v, (A.ad 99, oe) ∈ X.pn ∧ Zc (.ref (A.ad c)) (some p) oe ∧ (∃ vs, oe.data = .fields vs) ∧ A.nms c = [n] ∧ Tb.base p = some (.xd [(n, v)]) ∧ Rep X.K A Tb.base v x
section
variable {X : Cx} {A : CT} {c : Nat} {x : D} {e : Expr} {me : Ev} {pos : Pos}
theorem Sub.xd {G H : Hp} {p : Addr} {fs : List (Str × V)} (s : Sub G H) (h : G p = some (.xd fs)) : H p = some (.xd fs) := by
  rcases s _ _ h with h | ⟨z, _⟩
  · exact h
  · exact z.elim
theorem o_isX {f : Nat → D → Option Bool} (E : ErrAt A X c x) (T : SL.XA X.K (A.ad c)) (hk : ∀ y b, f c y = some b → ∃ cv, PySem.W.kitOne X.K (.ref (A.ad c)) cv = some b ∧ ∀ (G : Hp) (v : V) (u : Value), Rep X.K A G v y → RelV v u → u = cv) : CallR X (.builtin "isinstance") (rDn X.K A (isxD c f)) := by
  intro pins s σ H xs us Q I r h
  obtain ⟨G, ds, r0, sb, rs, e, k⟩ := h
  obtain ⟨oe, p, n, v, hp, hz, hf, hn, hb, hr⟩ := E.ex
  unfold isxD at e
  split at e
  · split at e
    · rename_i y b hy
      cases e
      obtain ⟨v1, v2, rfl, r1, r2⟩ := rs.inv2
      cases r1 with
      | cls _ h99 =>
        obtain ⟨cv, h1, h2⟩ := hk _ _ hy
        exact SL.call_isX T hp hz hf pins s σ H _ us Q I r ⟨v2, cv, b, _, rfl, fun u ru => h2 G v2 u r2 ru, sb.xd (sb.bs _ _ hb), h1, same_end sb (.bl _) k⟩
    · cases e
  · cases e
theorem pd_attrX {g : Nat → Bool} {nm : Str} (E : ErrAt A X c x) (T : SL.XA X.K (A.ad c)) (hg : g c = true → A.nms c = [nm]) (hno : PySem.W.findIn X.K (.ref (A.ad c)) nm = some none) (he : PD A X e me) (hb : attributeBase e nm X.env (eval e X.env) = eval e X.env := by rfl) :
    PD A X (.Attribute e nm pos) (eUn (atxD c g x) me) := by
  obtain ⟨oe, p, n, v, hp, hz, hf, hn, hbs, hr⟩ := E.ex
  refine PE.imp (SL.pe_attrX T hno hp hz hf he hb) fun σ H Q h => ?_
  obtain ⟨G, ρ, r, ρ', s, e, k⟩ := h
  obtain ⟨⟨y, ρ1⟩, e1, e⟩ := bind_ok e
  obtain ⟨r1, e2, e⟩ := bind_ok e
  cases e
  unfold atxD at e2
  split at e2
  · split at e2
    · rename_i hgc
      cases e2
      have := hg hgc
      rw [hn] at this
      cases this
      refine use_val s e1 fun u G1 H1 n1 ru => ?_
      cases ru with
      | cls _ h99 => exact ⟨_, v, rfl, n1.st.sub.xd (n1.st.sub.bs _ _ hbs), by simp, k _ _ _ n1 (RepR.of (hr.mono n1.st.sub.bs))⟩
    · cases e2
  · cases e2
end
section
variable {P : Program} {w : World} {K : PySem.W.Frag} {mg : Str → Option Value} {base : Heap} {x qual e : Str} {f : Addr} {fd : FuncData} {N : List Str} {k n : Nat} {A : CT} {mb : Nat → D → Sv} {l : List Nat}
end
end DY

set_option Elab.async false
set_option linter.all false
set_option maxRecDepth 100000
set_option maxHeartbeats 4000000
namespace DY
local instance : Tb := { T := [] }
def isxF : Nat → D → Option Bool
  | 22, .cls 20 => some true
  | 22, .cls 22 => some true
  | 22, .cls 44 => some false
  | 22, .cls 56 => some false
  | 22, .ty .xa => some false
  | 22, .ty .xl => some false
  | 22, .ty .xv => some true
  | _, _ => none
theorem isx_InvalidText {y : D} {b : Bool} (h : isxF 22 y = some b) : (y = .cls 20 ∧ b = true) ∨ (y = .cls 22 ∧ b = true) ∨ (y = .cls 44 ∧ b = false) ∨ (y = .cls 56 ∧ b = false) ∨ (y = .ty .xa ∧ b = false) ∨ (y = .ty .xl ∧ b = false) ∨ (y = .ty .xv ∧ b = true) := by
  unfold isxF at h; split at h <;> first | (cases h; done) | (exfalso; omega) | (cases h; simp)
theorem errCls {K : PySem.W.Frag} {A : CT} {a : PySem.Addr} {l : List Nat} {G : L2.Hp} {v : L2.V} {u : PySem.Value} {n : Nat} {C : PySem.Addr} (h : (A.err a l).ad n = C) (r : Rep K (A.err a l) G v (.cls n)) (e : L2.RelV v u) : u = .ref C := by
  cases r; cases e; rw [h]
def gx_value (c : Nat) : Bool := decide (c ∈ ([22] : List Nat))
end DY

set_option Elab.async false
set_option linter.all false
set_option maxRecDepth 100000
set_option maxHeartbeats 4000000
/-! SLE: the law's end, from a contract of SLG. -/
namespace SL
open PySem L2 PySem.Spec PyProof.Rows
section
variable {P : Program} {w : World} {K : PySem.W.Frag} {mg mb : Str → Option Value} {CX : CXT} {k : Nat} {fa a : Addr} {fd : FuncData} {x : Str} {sp : Sp} {s₁ : Shared} {vs : List Value} {ns : List Int}
end
end SL

set_option Elab.async false
set_option linter.all false
set_option maxRecDepth 100000
set_option maxHeartbeats 4000000
/-! SLE2: the law's end with tables of code objects; a def whose code object is known. -/
namespace SL
open PySem L2 PySem.Spec PyProof.Rows LamX
section
variable {P : Program} {w : World} {K : PySem.W.Frag} {mg : Str → Option Value} {base : Heap} {x qual : Str} {f : Addr} {fd : FuncData} {N ps : List Str} {k : Nat} {sp : Sp}
/-- a def by its body, its code object told -/
theorem funC_ok {st : Stmt} (F : Fun K x qual st f fd) (S : FnScope N ps (defScope st)) (len : ∀ vs H Q E, sp vs H Q E → vs.length = ps.length)
    (hbody : ∀ (A : Around) (outer : List Env) (s : Shared) (H : Hp) (vs : List V) (Q : VK) (E : XK), Room k (A.deeper (envOfC qual (defScope st) s.heap.objs.size f fd.code)) → sp vs H Q E → ∃ t, PSs (cxOf (L2.CX P w) P w K mg base N qual (defScope st) f fd.code A outer s H E) (defBody st) t ∧ t { nx := fun _ H' => Q .non H', rt := Q } (start N vs) H) : FnOk P w K mg base (L2.CX P w) (k + 1) f fd ps sp := by
  obtain ⟨oc, od, kV, doc, pm, an, cdv, ct, osl, rfl, lk, hcd⟩ := F.ex
  exact fn_of lk hcd S len hbody
end
section
variable {P : Program} {w : World} {K : PySem.W.Frag} {mg mb : Str → Option Value} {CX : CXT} {k : Nat} {fa a : Addr} {cs : List (Addr × Addr)} {fd : FuncData} {x : Str} {sp : Sp} {s₁ : Shared} {vs : List Value} {ns : List Int}
/-- the object at b is none of those that are tracked -/
theorem not_tracked {H : Hp} {b : Addr} {o : Obj} (ha : s₁.heap.get? a = some { cls := .type "list", data := .seq vs.toArray }) (hT : ∀ p ∈ cs, s₁.heap.get? p.2 = some { cls := .none, data := .fields #[] })
    (hA : ∀ b, H b ≠ none → b = a ∨ ∃ p ∈ cs, p.2 = b) (e : s₁.heap.get? b = some o) (h1 : ∀ us n, o.data ≠ .seq us n) (h2 : o.data ≠ .fields #[]) : H b = none :=
  Classical.byContradiction fun z => by
    rcases hA b z with rfl | ⟨p, hp, rfl⟩
    · rw [ha] at e; cases e; exact h1 _ _ rfl
    · rw [hT p hp] at e; cases e; exact h2 rfl
theorem env_topT {H : Hp} (KX : K.In s₁.heap) (hns : s₁.heap.Ns mainGlobals mg) (hb : s₁.heap.Ns builtinsNs mb) (hbb : ∀ x : Str, x ≠ "__name__" → mb x = bootBuiltins x) (hlim : s₁.heap.NoLimit) (hg : s₁.gens = #[])
    (hT : ∀ p ∈ cs, s₁.heap.get? p.2 = some { cls := .none, data := .fields #[] }) (nT : ∀ p ∈ cs, K.lookup p.2 = none) (C : ∀ p ∈ cs, PySem.W.CodeHd s₁.heap p.1 p.2)
    (hbm : ∃ (bm : Addr) (ob : Obj), mg "__builtins__" = some (.ref bm) ∧ bm ≠ builtinsNs ∧ s₁.heap.get? bm = some ob ∧ ob.cls = .type "module" ∧ ob.dict = some builtinsNs ∧ ob.data = .plain)
    (ha : s₁.heap.get? a = some { cls := .type "list", data := .seq vs.toArray }) (hok : HOk P w H s₁.heap) (hA : ∀ b, H b ≠ none → b = a ∨ ∃ p ∈ cs, p.2 = b) (hK : H a ≠ none → K.lookup a = none) :
    K.In (hidT s₁.heap H) ∧ (hidT s₁.heap H).Ns mainGlobals mg ∧ (∀ p ∈ cs, TabB (hidT s₁.heap H) mg p.1 p.2) ∧ Env0 P w K mg (hidT s₁.heap H) callerA [] s₁ H := by
  have nsK : ∀ {b : Addr} {m : Str → Option Value}, s₁.heap.Ns b m → (hidT s₁.heap H).Ns b m := fun {b m} ⟨o, es, ep, e, d, r⟩ =>
    ⟨o, es, ep, hidT_get e (not_tracked ha hT hA e (fun us n z => by rw [d] at z; cases z) fun z => by rw [d] at z; cases z), d, r⟩
  have hKb : K.In (hidT s₁.heap H) := fun b o e => hidT_get (KX b o e) (Classical.byContradiction fun z => by
    rcases hA b z with rfl | ⟨p, hp, rfl⟩
    · rw [hK z] at e; cases e
    · rw [nT p hp] at e; cases e)
  obtain ⟨mc, h1, h2⟩ := hlim
  refine ⟨hKb, nsK hns, fun p hp => ⟨?_, ?_, fun z => ?_⟩, ⟨rfl, ⟨hKb, nsK hns, ⟨mb, nsK hb, hbb⟩, ⟨mc, nsK h1, h2⟩⟩, fun b o e => of_hidT e, Nat.le_of_eq (hidT_size _ _), trivial, fun b hb => absurd (show b ∈ ([] : List Addr) from hb) (by simp), hok, .of_eq hg⟩⟩
  · obtain ⟨o, us, file, tf, flags, tg, inF, text, tt, e1, r1, r2, r3, rest⟩ := C p hp
    exact ⟨o, us, file, tf, flags, tg, inF, text, tt, hidT_get e1 (not_tracked ha hT hA e1 (fun us n z => by rw [r2] at z; cases z) fun z => by rw [r2] at z; cases z; simp at r3), r1, r2, r3, rest⟩
  · obtain ⟨bm, ob, b1, b2, b3, b4, b5, b6⟩ := hbm
    refine ⟨bm, ob, b1, b2, fun q => ?_, fun q => ?_, hidT_get b3 (not_tracked ha hT hA b3 (fun us n z => by rw [b6] at z; cases z) fun z => by rw [b6] at z; cases z), b4, b5, b6⟩
    · obtain ⟨o, es, ep, e, hd, _⟩ := hns
      rw [q, e] at b3; cases b3; rw [hd] at b6; cases b6
    · rw [q, hT p hp] at b3; cases b3; cases b6
  · obtain ⟨o, es, ep, e, hd, _⟩ := hns
    rw [z, hT p hp] at e; cases e; cases hd
theorem law_callT (KX : K.In s₁.heap) (hns : s₁.heap.Ns mainGlobals mg) (hb : s₁.heap.Ns builtinsNs mb) (hbb : ∀ x : Str, x ≠ "__name__" → mb x = bootBuiltins x) (hlim : s₁.heap.NoLimit) (hg : s₁.gens = #[])
    (hT : ∀ p ∈ cs, s₁.heap.get? p.2 = some { cls := .none, data := .fields #[] }) (nT : ∀ p ∈ cs, K.lookup p.2 = none) (C : ∀ p ∈ cs, PySem.W.CodeHd s₁.heap p.1 p.2)
    (hbm : ∃ (bm : Addr) (ob : Obj), mg "__builtins__" = some (.ref bm) ∧ bm ≠ builtinsNs ∧ s₁.heap.get? bm = some ob ∧ ob.cls = .type "module" ∧ ob.dict = some builtinsNs ∧ ob.data = .plain)
    (ha : s₁.heap.get? a = some { cls := .type "list", data := .seq vs.toArray }) (hi : IntsAre vs ns) (hl : ns.length ≤ sizeLine) (hr : Room k callerA)
    (F : ∀ base : Heap, K.In base → base.Ns mainGlobals mg → (∀ p ∈ cs, TabB base mg p.1 p.2) → FnOk P w K mg base CX k fa fd [x] sp) (hbind : ∀ (s : Shared) (u : Value), BindsTo s fd ⟨[u], []⟩ [(x, u)])
    (hsp : ∀ H : Hp, (∀ p ∈ cs, H p.2 = some (.tbl #[])) → SqL K H a (ns.map V.int) → sp [.ref a] H (fun v _ => v = .bl true) fun _ _ _ => False)
    (hCX : ∀ H e s', CX [] H s₁ (fun _ _ _ => False) e s' → False) :
    codeAny (model P w) callerA (.call (.ref fa) ⟨[.ref a], []⟩) (fun r s' => r = .ok (.ret (.bool true)) ∧ OldK s₁.heap s'.heap ∧ s'.os = s₁.os ∧ AllBare s'.gens) s₁ := by
  have rv := vals_ints hi
  have aT : ∀ p ∈ cs, p.2 ≠ a := fun p hp z => by
    have q := hT p hp
    rw [z, ha] at q
    cases (congrArg Obj.data (Option.some.inj q) : Data.seq vs.toArray _ = Data.fields #[])
  -- the script, if it is tracked at all, and the tables
  have go : ∀ S : Option HO, (S = none ∨ S = some (.frz { cls := .type "list", data := .seq vs.toArray } (.lst (ns.map V.int))) ∧ K.lookup a = none) → (∀ H : Hp, H a = S → SqL K H a (ns.map V.int)) →
      codeAny (model P w) callerA (.call (.ref fa) ⟨[.ref a], []⟩) (fun r s' => r = .ok (.ret (.bool true)) ∧ OldK s₁.heap s'.heap ∧ s'.os = s₁.os ∧ AllBare s'.gens) s₁ := by
    intro S hS hq
    classical
    let H : Hp := fun b => if b = a then S else if ∃ p ∈ cs, p.2 = b then some (.tbl #[]) else none
    have Ha : H a = S := if_pos rfl
    have Ht : ∀ p ∈ cs, H p.2 = some (.tbl #[]) := fun p hp => (if_neg (aT p hp)).trans (if_pos ⟨p, hp, rfl⟩)
    have cases3 : ∀ b u, H b = some u → (b = a ∧ S = some u) ∨ (∃ p ∈ cs, p.2 = b) ∧ u = .tbl #[] := fun b u z => by
      by_cases e : b = a
      · subst e; exact .inl ⟨rfl, Ha.symm.trans z⟩
      · by_cases e2 : ∃ p ∈ cs, p.2 = b
        · exact .inr ⟨e2, by have := (if_neg e).symm.trans z; rw [if_pos e2] at this; cases this; rfl⟩
        · have := (if_neg e).symm.trans z; rw [if_neg e2] at this; cases this
    have hok : HOk P w H s₁.heap := fun b u z => by
      rcases cases3 b u z with ⟨rfl, e⟩ | ⟨⟨p, hp, rfl⟩, rfl⟩
      · rcases hS with h | ⟨h, _⟩
        · rw [h] at e; cases e
        · rw [h] at e; cases e
          exact ⟨ha, by rw [List.length_map]; exact hl, vs, _, rv, ha⟩
      · exact hT p hp
    obtain ⟨h1, h2, h3, e0⟩ := env_topT (H := H) KX hns hb hbb hlim hg hT nT C hbm ha hok (fun b z => by
      cases q : H b with
      | none => exact absurd q z
      | some u => exact (cases3 b u q).imp (·.1) (·.1)) (fun z => by
      rcases hS with h | ⟨_, h⟩
      · exact absurd (Ha.trans h) z
      · exact h)
    refine codeAny_mono ((F _ h1 h2 h3).run callerA [] s₁ H ⟨[.ref a], []⟩ [.ref a] [.ref a] _ _ hr e0 (hbind s₁ (.ref a)) (.cons rfl .nil) (hsp H Ht (hq H Ha))) fun r s' h => ?_
    match r, h with
    | .error e, h => exact (hCX H e s' h).elim
    | .ok (.ret u), ⟨v, H', os, bare, un, hok', r', q⟩ =>
      subst q
      obtain rfl : u = Value.bool true := r'
      have grown : ∀ p ∈ cs, ∃ more : Array Value, s'.heap.get? p.2 = some { cls := .none, data := .fields more } := fun p hp => by
        obtain ⟨more, z⟩ := un.tbls p.2 #[] (Ht p hp)
        exact ⟨_, hok' p.2 _ z⟩
      have kept : ∀ b o, (¬ ∃ p ∈ cs, p.2 = b) → s₁.heap.get? b = some o → s'.heap.get? b = some o := fun b o nb e => by
        cases z : H b with
        | none => exact un.keep b o e z (by intro y; exact absurd (show b ∈ ([] : List Addr) from y) (by simp)) (by simp)
        | some u =>
          rcases cases3 b u z with ⟨rfl, e2⟩ | ⟨e2, _⟩
          · rcases hS with h | ⟨h, _⟩
            · rw [h] at e2; cases e2
            · rw [h] at e2; cases e2
              obtain ⟨y1, _⟩ := hok b _ z
              obtain ⟨y2, _⟩ := hok' b _ (un.frzs b _ _ z)
              rw [e] at y1; cases y1
              exact y2
          · exact absurd e2 nb
      refine ⟨rfl, ⟨fun b o e => ?_, fun b o e => ?_⟩, os, bare⟩
      · by_cases hb : ∃ p ∈ cs, p.2 = b
        · obtain ⟨p, hp, rfl⟩ := hb
          obtain ⟨more, hm⟩ := grown p hp
          rw [hT p hp] at e
          cases e
          exact .inr (.inl ⟨((C p hp).tab (hT p hp)).isCodeTable, rfl, #[], more, rfl, by rw [Array.empty_append]; exact hm⟩)
        · exact .inl (kept b o hb e)
      · by_cases hb : ∃ p ∈ cs, p.2 = b
        · obtain ⟨p, hp, rfl⟩ := hb
          obtain ⟨more, hm⟩ := grown p hp
          exact ⟨_, hm⟩
        · exact ⟨o, kept b o hb e⟩
  cases hk : K.lookup a with
  | some o =>
    have e := KX a o hk
    rw [ha] at e
    cases e
    exact go none (.inl rfl) fun H _ => .inr ⟨_, vs.toArray, _, hk, rfl, rfl, rfl, by rw [List.size_toArray, hi.length]; exact hl, by simpa using rv⟩
  | none => exact go _ (.inr ⟨rfl, hk⟩) fun H e => .inl (.inr ⟨_, e⟩)
end
/-- what is known of the law at the head's heap -/
def LawAtT (l : PySem.W.OpenLaw) (w : World) (K : PySem.W.Frag) (CX : CXT) (k n : Nat) (x : Str) (mg : Str → Option Value) (fa : Addr) (h : Heap) : Prop :=
  ∃ (fd : FuncData) (cs : List (Addr × Addr)) (sp : Sp), (∀ p ∈ cs, h.get? p.2 = some { cls := .none, data := .fields #[] }) ∧ (∀ p ∈ cs, K.lookup p.2 = none) ∧ (∀ p ∈ cs, PySem.W.CodeHd h p.1 p.2) ∧ (∀ (s : Shared) (u : Value), BindsTo s fd ⟨[u], []⟩ [(x, u)]) ∧
    (∀ (H : Hp) (a : Addr) (ns : List Int), ns.length ≤ n → (∀ p ∈ cs, H p.2 = some (.tbl #[])) → SqL K H a (ns.map V.int) → sp [.ref a] H (fun v _ => v = .bl true) fun _ _ _ => False) ∧
    ∀ base : Heap, K.In base → base.Ns mainGlobals mg → (∀ p ∈ cs, TabB base mg p.1 p.2) → FnOk l.prog w K mg base CX k fa fd [x] sp
theorem walk_ofT {l : PySem.W.OpenLaw} {n k : Nat} {q : Program} {loose : List Str} {XP : (Str → Option Value) → Heap → Prop} {YP : World → Heap → Prop} {d : DefRec} {K : Params → PySem.W.Frag} {CX : World → CXT} {x : Str} (hn : l.most = some n) (hn2 : n ≤ sizeLine) (hdf : d.params.defaults = []) (hr : Room k callerA) (hY : ∀ (w : World) (h : Heap), YP w h → (K w.params).In h)
    (F : ∀ (w : World) (mg : Str → Option Value) (fa : Addr) (h : Heap), (K w.params).In h → h.Ns mainGlobals mg → mg d.name = some (.ref fa) →
      (∀ (x : Str) (c P : Addr), ((recsOf q).any fun e => e.name == x) = true → PySem.W.tabIn (K w.params) x = some (c, P) → PySem.W.CodeHd h c P ∧ h.get? P = some { cls := .none, data := .fields #[] }) → LawAtT l w (K w.params) (CX w) k n x mg fa h)
    (hCX : ∀ (w : World) (H : Hp) (s : Shared) (e : Value) (s' : Shared), CX w [] H s (fun _ _ _ => False) e s' → False) :
    PySem.W.WalkO q loose XP YP l.row.toRowW d [] (fun f vs => PySem.call f vs) := Att.attach_callB hn hdf fun w s₀ s₁ mg mb fa o pm cd doc a vs ns G Y ho hd hcd hmg hobj hints hlen hbits hg => by
  have KX := hY w _ Y
  obtain ⟨fd, cs, sp, hT, nT, C, hb, hsp, hF⟩ := F w mg fa _ KX G.T.g hmg fun x c P hr ht => by
    cases e : (recsOf q).find? fun e => e.name == x with
    | none => rw [List.any_eq_true] at hr; obtain ⟨d, hd, hx⟩ := hr; exact absurd hx (List.find?_eq_none.mp e d hd)
    | some d => exact PySem.W.tab_of G.T KX e ht
  exact law_callT KX G.T.g G.T.b G.T.builtins G.T.nolimit hg hT nT C G.T.bmain hobj hints (Nat.le_trans hlen hn2) hr hF hb (fun H hH hS => hsp H a ns hlen hH hS) fun H e s' => hCX w H s₁ e s'
theorem tabIn_of {K : PySem.W.Frag} {x : Str} {f c P : Addr} {oc : Value} {od : Option Addr} {fd : FuncData} {osl : Array (Option Value)} {ce : Value} {cd : Option Addr} {cv : Array Value} {csl : Array (Option Value)} (h1 : PySem.W.nsIn K mainGlobals x = some (some (.ref f))) (h2 : K.lookup f = some ⟨oc, od, .func fd, osl⟩) (h3 : fd.code = .ref c)
    (h4 : K.lookup c = some ⟨ce, cd, .fields cv, csl⟩) (h5 : cv[11]? = some (.ref P)) : PySem.W.tabIn K x = some (c, P) := by
  unfold PySem.W.tabIn
  rw [h1]
  dsimp only
  rw [h2]
  dsimp only
  rw [h3]
  dsimp only
  rw [h4]
  dsimp only
  rw [h5]
/-- tables that are empty tell nothing -/
theorem tabs_nil {H : Hp} {T : List (Addr × Str)} (h : ∀ p ∈ T, H p.1 = some (.tbl #[])) : Tabs T H := fun p hp => ⟨#[], h p hp, trivial, fun pos cv e => by cases e⟩
end SL

set_option Elab.async false
set_option linter.all false
set_option maxRecDepth 100000
set_option maxHeartbeats 4000000
/-! SLX5: a lambda with parameters, called in the def that got it -/
namespace SL
open PySem L2 PySem.Spec PyProof.Rows LamX
section
variable {X : Cx} {pins : List (Addr × Obj)} {σ : L2.St} {H HZ : Hp} {s s1 : Shared}
end
end SL

set_option Elab.async false
set_option linter.all false
set_option maxRecDepth 100000
set_option maxHeartbeats 4000000
/-! ### told(lambda: ..); defs that are asked for no error -/
namespace DY
open PySem L2 PySem.Spec PyProof.Rows LamX
variable [Tb]
open Classical in
/-- the classes of the errors that the law tells -/
noncomputable def mOf (A : CT) (cls : Value) : Bool := decide (∃ c ∈ A.xs, cls = .ref (A.ad c))
section
variable {X : Cx} {A : CT}
theorem pe_or {e : Expr} {t t' : TE} (h : PE X e t) (h' : PE X e t') : PE X e (fun σ H Q => t σ H Q ∨ t' σ H Q) := ⟨fun pins s σ H Q I q => q.elim (h.run pins s σ H Q I) (h'.run pins s σ H Q I)⟩
theorem pd_told {stT : Stmt} {fd0 fdS : FuncData} {g fs c P : Addr} {k kk j : Nat} {c1 c2 c3 : Value} {tl : Str} {ret : List Nat} {bs : List Bool} {FS : D → R Rv} {m : Ev} {params : Arguments} {body : Expr} {scope : Scope}
    {p lpos pos p1 p2 p3 tp q1 q2 q3 q4 q5 q6 q7 q8 q9 q10 q11 q12 q13 q14 : Pos}
    (Fg : L2.Fun X.K "_law_told" "_law_told" stT g fd0) (hB : defBody stT = SL.toldB tl "_law_sort" (.Tuple [.Name "ShapeError" p1, .Name "QuestionError" p2, .Name "SizeError" p3] kk tp) q1 q2 q3 q4 q5 q6 q7 q8 q9 q10 q11 q12 q13 q14 j) (htl : tl = S ret)
    (bT : Binds X.K fd0 ["_law_act"] []) (scT : FnScope SL.toldN ["_law_act"] (defScope stT)) (la : (defScope stT).names.lookup ("_law_act" : Str) = some .local) (lg : (defScope stT).names.lookup ("_law_got" : Str) = some .local) (le : (defScope stT).names.lookup ("_law_e" : Str) = some .local) (ls : (defScope stT).names.lookup ("_law_sort" : Str) = some .globalImplicit)
    (l1 : (defScope stT).names.lookup ("ShapeError" : Str) = some .globalImplicit) (l2 : (defScope stT).names.lookup ("QuestionError" : Str) = some .globalImplicit) (l3 : (defScope stT).names.lookup ("SizeError" : Str) = some .globalImplicit)
    (hg : Gl X "_law_told") (hmg : X.mg "_law_told" = some (.ref g)) (hms : X.mg "_law_sort" = some (.ref fs)) (hks : PySem.W.keepIn X.K (.ref fs) = true) (hbs : Binds X.K fdS ["_law_e"] []) (FX : SL.FnX X.prog X.w X.K X.mg X.base k fs fdS "_law_e" (spX X.K A FS))
    (m1 : X.mg "ShapeError" = some c1) (m2 : X.mg "QuestionError" = some c2) (m3 : X.mg "SizeError" = some c3) (hx : ∀ n ∈ A.xs, PySem.W.exmAny X.K (.ref (A.ad n)) [c1, c2, c3] = some true)
    (TB : TabB X.base X.mg c P) (hcode : X.env.code = .ref c) (hmT : (P, X.env.qual ++ "<lambda>") ∈ Tb.T) (hu : ∀ p ∈ Tb.T, p.1 = P → p.2 = X.env.qual ++ "<lambda>") (hr : Room (k + 2) X.A) (L : LamS X.env.scope scope) (hdef : defaultsOf params X.env = ([], []))
    (hbind : ∀ (q : Str) (cl : List (Str × Addr)) (pm cv ctv : Value), bindArgs (PySem.W.kla_fn "<lambda>" q params body scope cl pm cv ctv) ⟨[], []⟩ = pure [])
    (hb : ∀ (Ar : Around) (outer : List PySem.Env) (s : Shared) (H : Hp) (E : XK) (f c' : Addr), Room k (Ar.deeper (lamEnv X scope s.heap.objs.size f c')) → PD A (lamCx X Ar outer s H E scope f c') body m)
    (hbx : ∀ (Ar : Around) (outer : List PySem.Env) (s : Shared) (H : Hp) (E : XK) (f c' : Addr), Room k (Ar.deeper (lamEnv X scope s.heap.objs.size f c')) → PX A (lamCx X Ar outer s H E scope f c') E body m) :
    PD A X (.Call (.Name "_law_told" p) [.Lambda params body scope lpos] [] pos) (eTold FS ret bs m) := by
  subst htl
  obtain ⟨oc, od, kV, doc, pm, an, cdv, ct, osl, rfl, lk, hcd⟩ := Fg.ex
  rw [hB] at lk bT
  have D : SL.Told X.K X.mg "_law_told" g (defScope stT) cdv (.Tuple [.Name "ShapeError" p1, .Name "QuestionError" p2, .Name "SizeError" p3] kk tp) (S ret) "_law_sort" :=
    ⟨⟨_, _, _, _, _, _, _, _, _, _, q1, q2, q3, q4, q5, q6, q7, q8, q9, q10, q11, q12, q13, q14, j, lk, bT⟩, hcd, hmg, Fg.kp, scT, la, lg, le, ls⟩
  refine PE.imp (SL.pe_told (T := Tb.T) (m := mOf A) (sp := spX X.K A FS) (tb := fun E σ H Q => liftE X.K A m σ H Q ∨ liftX X.K A E m σ H Q) D hg hms hks hbs FX (fun s H => ?_) TB hcode hmT hu hr L hdef hbind
    (fun Ar outer s H E f c' r => pe_or (hb Ar outer s H E f c' r) (hbx Ar outer s H E f c' r)) (fun E σ H Q Q' k h => ?_)) fun σ H Q h => told_use (fun c hc => ?_) h
  · refine SL.xtest3 l1 m1 l2 m2 l3 m3 fun cls hc => ?_
    obtain ⟨n, hn, rfl⟩ := of_decide_eq_true hc
    exact hx n hn
  · rcases h with h | h
    · exact .inl (liftE_mono k h)
    · exact .inr h
  · exact decide_eq_true ⟨c, hc, rfl⟩
end
theorem pX_lam {P : Program} {w : World} {X : Cx} {Ar : Around} {outer : List PySem.Env} {s : Shared} {H : Hp} {E : XK} {scope : Scope} {f c' : Addr} (h1 : X.prog = P := by rfl) (h2 : X.w = w := by rfl) : Passes (L2.CX P w) (lamCx X Ar outer s H E scope f c') E := by
  subst h1 h2
  exact passes_call (takes_of rfl rfl rfl rfl) fun _ _ _ _ z => z
/-! raise, where no error is asked for -/
theorem pds_raiseN {X : Cx} {A : CT} {j : Option Nat} {st : Stmt} {c : Nat} {m : Ev} : PDS A j X st (sRaise c m) := ⟨fun _ _ _ _ _ _ h => by
  obtain ⟨B, G, ρ, o, ρ', _, e, _⟩ := h
  obtain ⟨_, _, e⟩ := bind_ok e
  cases e⟩
/-! a def that is asked for no error -/
section
variable {P : Program} {w : World} {K : PySem.W.Frag} {mg : Str → Option Value} {base : Heap} {CX : CXT} {k n j : Nat} {f : Addr} {fd : FuncData} {ps : List Str} {A : CT}
theorem fnOk_imp {sp sp' : Sp} (h : FnOk P w K mg base CX k f fd ps sp) (i : ∀ vs H Q E, sp' vs H Q E → sp vs H Q E) : FnOk P w K mg base CX k f fd ps sp' := ⟨fun vs H Q E z => h.len vs H Q E (i _ _ _ _ z), fun A outer s H args us vs Q E a b c d e => h.run A outer s H args us vs Q E a b c d (i _ _ _ _ e)⟩
theorem okF {F : Fn} (h : FnOk P w K mg base CX k f fd ps (spF K A F n)) : FnOk P w K mg base CX k f fd ps (spF K A (pF F) n) := fnOk_imp h fun vs H Q E ⟨l, G, ds, r, s, rs, e, q⟩ => ⟨l, G, ds, r, s, rs, pF_ok e, q⟩
theorem hlF {F : Fn} (h : ∀ ds r, F ds = .ok r → ds.length = n) : ∀ ds r, pF F ds = .ok r → ds.length = n := fun ds r e => h ds r (pF_ok e)
end
section
variable {f : D → D → R Rv} {F : Fn} {FR : FnR} {a : Ev} {ms ks : List Ev} {i c : Nat} {g : List D → List D → List D}
theorem ne_isIns (x d : D) : isIns c x ≠ .ex d := fun z => by unfold isIns at z; split at z <;> (try split at z) <;> cases z
theorem ne_meth (hf : NN F) (ha : NE a) (hm : NEs ms) : NE (eMeth c F a ms) := fun ρ d => nex_b (ne_val ha ρ) (fun x => nex_b (ne_isIns _) fun _ => nex_b (hm _) fun _ => nex_b (hf _) fun _ => ne_pure) d
theorem ne_methK (hf : NN F) (ha : NE a) (hm : NEs ms) (hk : NEs ks) : NE (eMethK c F g a ms ks) := fun ρ d => nex_b (ne_val ha ρ) (fun x => nex_b (ne_isIns _) fun _ => nex_b (hm _) fun _ => nex_b (hk _) fun _ => nex_b (hf _) fun _ => ne_pure) d
theorem ne_nk (hf : NN F) (hm : NEs ms) (hk : NEs ks) : NE (eNK F g ms ks) := fun ρ d => nex_b (hm ρ) (fun _ => nex_b (hk _) fun _ => nex_b (hf _) fun _ => ne_pure) d
theorem nn_mk {init : FnR} : NN (mkObj c (pR init)) := fun xs d => nex_b (ne_np _) (fun r d z => by dsimp only at z; split at z <;> cases z) d
theorem nn_mkD {init : FnR} {dds : List D} : NN (fun xs => mkObj c (pR init) (xs ++ dds)) := fun xs d => nn_mk _ d
theorem ne_callR (hm : NEs ms) (hk : NEs ks) : NE (eCallR (pR FR) ms i ks) := fun ρ d => nex_b (ne_look ρ i) (fun _ => nex_b (hm _) fun _ => nex_b (hk _) fun _ d z => by
  dsimp only at z
  split at z
  · exact nex_b (ne_np _) (fun _ => ne_pure) d z
  · cases z) d
theorem ne_app (hm : NEs ms) : NE (eMut appendM i ms) := fun ρ d => nex_b (ne_look ρ i) (fun _ => nex_b (fun d z => by unfold isL at z; split at z <;> cases z) fun _ => nex_b (hm _) fun _ d z => by
  dsimp only at z
  split at z
  · exact nex_b (fun d z => by unfold appendM at z; split at z <;> (try split at z) <;> cases z) (fun _ => ne_pure) d z
  · cases z) d
end
end DY

set_option Elab.async false
set_option linter.all false
set_option maxRecDepth 100000
set_option maxHeartbeats 4000000
/-! ### list.count of truths -/
namespace DY
open PySem L2 PySem.Spec PyProof.Rows LamX
variable [Tb]
def eqb (b : Bool) : Value → Bool
  | .bool c => c == b
  | _ => false
def countB : D → D → R Rv
  | .lst ds, .bl b => do
    let bs ← boolsOf ds
    .ok (.int (bs.count b : Nat), false)
  | _, _ => .no
theorem n2_sel {g : D → D → Bool} {f h : D → D → R Rv} (hf : N2 f) (hh : N2 h) : N2 (sel g f h) := fun x y d z => by
  unfold sel at z
  split at z
  · exact hf _ _ _ z
  · exact hh _ _ _ z
theorem n1_sel1 {g : D → Bool} {f h : D → R Rv} (hf : N1 f) (hh : N1 h) : N1 (sel1 g f h) := fun x d z => by
  unfold sel1 at z
  split at z
  · exact hf _ _ z
  · exact hh _ _ z
theorem n2_pF {F : Fn} : N2 fun x y => pF F [x, y] := fun x y d => nn_pF _ d
theorem n2_pFs {F : Fn} : N2 fun x y => pF F [y, x] := fun x y d => nn_pF _ d
theorem n1_pF {F : Fn} : N1 fun x => pF F [x] := fun x d => nn_pF _ d
theorem bools_vals {bs : List Bool} {us : List Value} (h : Vals (bs.map V.bl) us) : us = bs.map Value.bool := by
  induction bs generalizing us with
  | nil => cases h; rfl
  | cons b bs ih => cases h with | cons r rs => cases r; rw [ih rs]; rfl
theorem count_bools (bs : List Bool) (b : Bool) : (bs.map Value.bool).countP (eqb b) = bs.count b := by
  induction bs with
  | nil => rfl
  | cons c bs ih =>
    rw [List.map_cons, List.countP_cons, List.count_cons, ih]
    rfl
def rCntB (K : PySem.W.Frag) : V → List V → Hp → VK → Prop := fun x xs H Q => ∃ (p : Addr) (bs : List Bool) (b : Bool), x = .ref p ∧ xs = [.bl b] ∧ SqL K H p (bs.map V.bl) ∧ Q (.int (bs.count b : Nat)) H
section
variable {X : Cx} {A : CT} {o e : Expr} {mo me : Ev} {apos pos : Pos}
theorem mt_countB : MtR X "list.count" (rCntB X.K) := by
  intro pins s σ H x xs v us Q I rx rxs h
  obtain ⟨p, bs, k, rfl, rfl, hs, q⟩ := h
  cases rx
  obtain ⟨u, rfl, ru⟩ := rxs.one
  cases ru
  obtain ⟨its, rv, ⟨⟨cls, dd, data, sl⟩, n, ho, hc, hdn, hd⟩, hlen⟩ := I.list hs
  simp only at hc hd
  subst hc hd
  have hi := bools_vals rv
  subst hi
  refine call_meets PySem.F.slot_list_count ⟨_, ho, rfl⟩ PySem.F.entry_list_count (PySem.F.args_list_count_2 _ _)
    (SeqAt.list_countAt p (bs.map Value.bool).toArray n dd sl (.bool k) (eqb k)) ⟨ho, fun y hy => ?_, ?_⟩
  · obtain ⟨c, _, rfl⟩ := List.mem_map.mp (show y ∈ bs.map Value.bool by simpa using hy)
    exact SeqAt.EqAt.bool_bool c k
  · refine ⟨.int (bs.count k : Nat), H, I.tok _, ⟨s.toks, ?_⟩, q⟩
    rw [← count_bools]
end
section
variable {X : Cx} {A : CT} {o e : Expr} {mo me : Ev} {apos pos : Pos}
theorem pd_count (ho : PD A X o mo) (ha : PDA A X [e] [me]) (hx : ∀ {r : V → List V → Hp → VK → Prop}, MtR X "list.count" r → PE X (.Call (.Attribute o "count" apos) [e] [] pos) (tBM X.K "list" r (liftE X.K A mo) (liftA X.K A [me]))) :
    PD A X (.Call (.Attribute o "count" apos) [e] [] pos) (eBin countB mo me) := PE.imp (hx mt_countB) fun σ H Q h => by
  obtain ⟨G, ρ, r, ρ', s, e, k⟩ := h
  obtain ⟨⟨x, ρ1⟩, e1, e⟩ := bind_ok e
  obtain ⟨⟨y, ρ2⟩, e2, e⟩ := bind_ok e
  obtain ⟨r1, e3, e⟩ := bind_ok e
  obtain rfl : ρ2 = ρ' := by cases e; rfl
  obtain rfl : r1 = r := by cases e; rfl
  unfold countB at e3
  split at e3
  · rename_i ds b _
    obtain ⟨bs, e4, e3⟩ := bind_ok e3
    cases e3
    refine use_val s e1 fun v G1 H1 n1 r1 => ?_
    cases r1 with
    | lst h rs =>
      have evv : evs [me] ρ1 = .ok ([.bl b], ρ2) := by show (do let (x, ρ1) ← val me ρ1; let (xs, ρ2) ← evs [] ρ1; pure (x :: xs, ρ2)) = _; rw [e2]; rfl
      refine ⟨(.inl ⟨rfl, _, .inl (.inl (n1.st.sub.lst h))⟩), G1, ρ1, _, _, n1.st, evv, fun vs G2 H2 n2 r2 => ?_⟩
      obtain ⟨v2, rfl, r3⟩ := r2.inv1
      cases r3
      have hb := bools_rep rs e4
      subst hb
      exact ⟨_, bs, _, rfl, rfl, .inl (.inl (n2.st.sub.lst (n2.gs _ _ h))), k _ _ _ (n1.trans n2) (RepR.of (.int _))⟩
  · cases e3
end
end DY

set_option Elab.async false
set_option linter.all false
/-! LP1: sums, determinants -/
namespace LP
def sm : Nat → (Nat → Int) → Int
  | 0, _ => 0
  | n + 1, g => sm n g + g n
/-! ### determinants -/
abbrev Vec := Nat → Int
abbrev Mat := Nat → Vec
def sgn (i : Nat) : Int := if i % 2 = 0 then 1 else -1
def skip (i a : Nat) : Nat := if a < i then a else a + 1
def minor (i : Nat) (R : Mat) : Mat := fun a b => R (skip i a) (b + 1)
def det : Nat → Mat → Int
  | 0, _ => 1
  | m + 1, R => sm (m + 1) fun i => sgn i * R i 0 * det m (minor i R)
def bnd (B : Nat) : Nat → Nat
  | 0 => 1
  | m + 1 => (m + 1) * (B * bnd B m)
end LP

set_option Elab.async false
set_option linter.all false
/-! LP2: tables, the exchange of a column with a row -/
namespace LP
structure Tab where
  cols : List Nat
  bas : List (Option Nat)
  rows : List (List Int)
  sc : Int
def Tab.R (t : Tab) (i j : Nat) : Int := (t.rows.getD i []).getD j 0
def clearedL (row own : List Int) (p : Nat) (sc : Int) : List Int :=
  ((List.range row.length).map fun k => ((if own.getD p 0 > 0 then 1 else -1) * (own.getD p 0 * row.getD k 0 - row.getD p 0 * own.getD k 0)).fdiv sc).set p ((if own.getD p 0 > 0 then 1 else -1) * row.getD p 0)
def turnedL (own : List Int) (p : Nat) (sc : Int) : List Int := (own.map fun x => -(if own.getD p 0 > 0 then 1 else -1) * x).set p ((if own.getD p 0 > 0 then 1 else -1) * sc)
def exchange (t : Tab) (i p : Nat) : Tab :=
  { cols := t.cols.set p ((t.bas.getD i none).getD 0), bas := t.bas.set i (some (t.cols.getD p 0)),
    rows := (t.rows.map fun row => clearedL row (t.rows.getD i []) p t.sc).set i (turnedL (t.rows.getD i []) p t.sc), sc := ((t.R i p).natAbs : Int) }
section
variable (f g : Nat → Vec) (e : Vec)
/-- what row i tells -/
def Fn (t : Tab) (i : Nat) : Vec := match t.bas.getD i none with
  | some b => f b
  | none => g i
def basis (n : Nat) (t : Tab) : Mat := fun k => if k < n then f (t.cols.getD k 0) else e
structure OK (n : Nat) (t : Tab) : Prop where
  lc : t.cols.length = n
  lb : t.bas.length = t.rows.length
  lr : ∀ r ∈ t.rows, r.length = n + 1
  sp : 0 < t.sc
  c1 : ∀ (i j v : Nat), t.cols[i]? = some v → t.cols[j]? = some v → i = j
  b1 : ∀ (i j v : Nat), t.bas[i]? = some (some v) → t.bas[j]? = some (some v) → i = j
  cb : ∀ (i j v : Nat), t.cols[i]? = some v → t.bas[j]? ≠ some (some v)
  eqn : ∀ i, i < t.rows.length → ∀ c, t.sc * Fn f g t i c = sm (n + 1) fun k => t.R i k * basis f e n t k c
  dt : ∃ ε : Int, (ε = 1 ∨ ε = -1) ∧ det (n + 1) (basis f e n t) = ε * t.sc
end
section
variable {f g : Nat → Vec} {e : Vec} {n : Nat} {t : Tab}
/-- the product that is divided -/
def Wd (t : Tab) (i q p k : Nat) : Int := t.R q p * t.R i k - t.R i p * t.R q k
/-! the new rows -/
def sg (x : Int) : Int := if x > 0 then 1 else -1
end
end LP

set_option Elab.async false
set_option linter.all false
/-! LP3: which column, which row; steps; no set of columns comes twice -/
namespace LP
def lastR (t : Tab) (i : Nat) : Int := t.R i t.cols.length
/-! ### a step -/
structure Feas (t : Tab) : Prop where
  g0 : t.bas[0]? = some none
  ge : ∀ i b, t.bas[i]? = some (some b) → 0 ≤ lastR t i
section
variable {f g : Nat → Vec} {e : Vec} {n : Nat} {t t' : Tab} {p q b : Nat}
/-! where numbers stand -/
def IsCol (t : Tab) (v : Nat) : Prop := ∃ k : Nat, t.cols[k]? = some v
def IsBas (t : Tab) (v : Nat) : Prop := ∃ i : Nat, t.bas[i]? = some (some v)
def Inn (t : Tab) (v : Nat) : Prop := IsCol t v ∨ IsBas t v
def ent (t : Tab) (p : Nat) : Nat := t.cols.getD p 0
/-! two tables of the same quantities -/
end
end LP

set_option Elab.async false
set_option linter.all false
/-! LP4: no set of columns comes twice; climbing ends -/
namespace LP
section
variable {f g : Nat → Vec} {e : Vec} {n : Nat} {sq : Nat → Tab} {ps qs bs : Nat → Nat} {K : Nat}
/-- the entering one -/
def eN (sq : Nat → Tab) (ps : Nat → Nat) (k : Nat) : Nat := ent (sq k) (ps k)
end
/-! ### few sets -/
/-! ### climbing -/
section
variable {f g : Nat → Vec} {e : Vec} {n N : Nat}
end
end LP

set_option Elab.async false
set_option linter.all false
/-! LP5: conditions decided -/
namespace LP
/-! ### a table as it is written -/
def fT (t : Tab) : Nat → Vec := fun v c => match t.cols.idxOf? v with
  | some k => if c = k then 1 else 0
  | none => match t.bas.idxOf? (some v) with
    | some i => t.R i c
    | none => 0
def gT (t : Tab) : Nat → Vec := fun i c => t.R i c
def unit (n : Nat) : Vec := fun c => if c = n then 1 else 0
section
variable {n : Nat} {t : Tab}
end
/-! ### amounts -/
section
variable {f g : Nat → Vec} {e : Vec} {n : Nat} {t : Tab}
end
/-! ### the conditions' table -/
abbrev Cond := List Int × Bool
def bI (b : Bool) : Int := if b then -1 else 0
def decidedT (w : Nat) (cs : List Cond) : Tab :=
  { cols := List.range w ++ [w + cs.length, w + cs.length + 1],
    bas := none :: ((List.range cs.length).map fun i => some (w + i)) ++ [some (w + cs.length + 2), some (w + cs.length + 3)],
    rows := (List.replicate w 0 ++ [0, 1, 0]) :: (cs.map fun c => c.1 ++ [bI c.2, 0]) ++ [List.replicate w 0 ++ [-1, 0, 1], List.replicate w 0 ++ [1, -1, 0]],
    sc := 1 }
section
variable {w : Nat} {cs : List Cond}
/-- behind the climb -/
structure Dn (w : Nat) (cs : List Cond) (t : Tab) : Prop where
  ok : OK (fT (decidedT w cs)) (gT (decidedT w cs)) (unit (w + 2)) (w + 2) t
  fe : Feas t
  inn : ∀ v, Inn t v ↔ v < w + cs.length + 4
section
variable {t : Tab} (hl : ∀ c ∈ cs, c.1.length = w + 1)
include hl
/-- weights are told -/
def wt (w : Nat) (t : Tab) (v : Nat) : Int := sm (w + 2) fun j => if t.cols.getD j 0 = v then - t.R 0 j else 0
def cf (w : Nat) (cs : List Cond) (v k : Nat) : Int := if v < w then (if v = k then 1 else 0) else (cs.getD (v - w) ([], false)).1.getD k 0
end
end
end LP

set_option Elab.async false
set_option linter.all false
set_option maxRecDepth 100000
set_option maxHeartbeats 4000000
/-! ### tables of the solver: an object that alone holds two of its lists -/
namespace DY
open PySem L2 PySem.Spec PyProof.Rows
variable [Tb]
/-- the heap grows; within O it may change -/
structure Fr (O : Addr → Prop) (H H' : Hp) : Prop where
  hs : ∀ q o, H q = some o → ¬ O q → (∀ ps, o ≠ .tbl ps) → H' q = some o
  there : ∀ q, H q ≠ none → H' q ≠ none
  tb : LamX.Tabs Tb.T H'
section
variable {K : PySem.W.Frag} {A : CT} {G G' G1 H H' H1 H2 : Hp} {σ : L2.St} {ρ ρ' : Env} {O : Addr → Prop} {p a b : Addr} {t : LP.Tab} {S : Addr → Prop}
/-! what is known of rows -/
/-! a state of which all is shown -/
end
section
variable {K : PySem.W.Frag} {A : CT} {G G' G1 H H' H1 H2 : Hp} {σ : L2.St} {ρ ρ' : Env}
end
/-! ### exchange -/
section
variable {K : PySem.W.Frag} {A : CT} {H : Hp}
end
end DY

set_option Elab.async false
set_option linter.all false
set_option maxRecDepth 100000
set_option maxHeartbeats 4000000
/-! ### climbing -/
namespace DY
open PySem L2 PySem.Spec PyProof.Rows
variable [Tb]
section
variable {K : PySem.W.Frag} {A : CT} {H : Hp}
end
end DY

set_option Elab.async false
set_option linter.all false
set_option maxRecDepth 100000
set_option maxHeartbeats 4000000
/-! ### a table made and climbed -/
namespace DY
open PySem L2 PySem.Spec PyProof.Rows
variable [Tb]
section
variable {X : Cx} {A : CT} {j : Option Nat}
end
end DY

set_option Elab.async false
set_option linter.all false
/-! LP6: how large the numbers get -/
namespace LP
end LP

set_option Elab.async false
set_option linter.all false
/-! LP7: a point that keeps the conditions makes the goal positive -/
namespace LP
end LP

set_option Elab.async false
set_option linter.all false
/-! LP8: a table without a column that is 0, without its first row -/
namespace LP
/-- without the first row -/
def tl (t : Tab) : Tab := { t with rows := t.rows.drop 1, bas := t.bas.drop 1 }
section
variable {f g : Nat → Vec} {e : Vec} {n : Nat} {t : Tab}
end
end LP

set_option Elab.async false
set_option linter.all false
set_option maxRecDepth 100000
set_option maxHeartbeats 4000000
/-! ### a table climbed twice, a quantity taken out between -/
namespace DY
open PySem L2 PySem.Spec PyProof.Rows
variable [Tb]
section
variable {K : PySem.W.Frag} {A : CT} {G G3 G' G1 H H3 H4 H6 H' H1 H2 : Hp} {σ : L2.St} {ρ ρ' ρ3 : Env} {O : Addr → Prop} {p a b a6 b6 : Addr} {t t' : LP.Tab} {S : Addr → Prop}
end
/-! ### fixed -/
/-! ### climbed, fixed, climbed again -/
section
variable {X : Cx} {A : CT} {j : Option Nat}
end
end DY

set_option Elab.async false
set_option linter.all false
set_option maxRecDepth 100000
set_option maxHeartbeats 4000000
/-! DYty: a try whose only statement may raise an error of one class, which the suite tells: `return None, e.attr, ..` -/
namespace SL
open PySem L2 PySem.Spec PyProof.Rows
/-! ### calls whose error is told with the slots of the frame -/
section
variable {X : Cx} {CX : CXT} {k n : Nat} {f C : Addr} {fd : FuncData} {ps ks : List Str} {sp : Sp} {E1 : XK} {E : L2.St → XK} {dvs : List V} {ds : List Value} {x m : Str} {p pos apos : Pos} {e o : Expr} {es : List Expr} {ta : TE} {t tk : TA}
variable {pins : List (Addr × Obj)} {σ : L2.St} {H : Hp} {s : Shared} {Q : VK} {us ws : List Value} {vs zs : List V}
end
end SL
namespace DY
open PySem L2 PySem.Spec PyProof.Rows
variable [Tb]
section
variable {X : Cx} {A : CT} {CX : CXT} {k n : Nat} {f C : Addr} {fd : FuncData} {ps : List Str} {E : L2.St → XK} {x m : Str} {p pos pos' apos : Pos} {e : Expr} {es : List Expr} {me mb : Ev} {ms : List Ev} {j : Option Nat} {W : WX}
end
/-! a, b = a list of that length -/
section
variable {X : Cx} {A : CT} {pos : Pos}
end
end DY

set_option Elab.async false
set_option linter.all false
set_option maxRecDepth 100000
set_option maxHeartbeats 4000000
/-! DYte: == of tuples whose elements have an own == -/
namespace SL
open PySem PySem.SeqAt GQ
open AutoSeq1 (wpAny_loadPart')
open MeetsSeq MeetsSeq2 MeetsSeq3 SeqRoads2
section
variable {prog : Program} {w : World} {A : Around} {R : Result → Shared → Prop}
end
section
variable {prog : Program} {w : World} {A : Around} {E : Value → Shared → Prop} {s : Shared}
end
end SL
namespace DY
open PySem L2 PySem.Spec PyProof.Rows
variable [Tb]
section
variable {K : PySem.W.Frag} {A : CT} {G : Hp}
end
section
variable {X : Cx} {A : CT} {CX : CXT} {k : Nat} {f : Addr} {fd : FuncData} {ps : List Str} {E : XK} {F : Fn} {c : Nat}
end
end DY

set_option Elab.async false
set_option linter.all false
set_option maxRecDepth 100000
set_option maxHeartbeats 4000000
/-! DYle: len(x), bool(x) by an own __len__; calls with positions and names -/
namespace SL
open PySem L2 PySem.Spec PyProof.Rows Builtin
section
variable {prog : Program} {w : World} {A : Around} {E : Value → Shared → Prop} {s : Shared} {K : PySem.W.Frag} {C x f : Addr} {ox : Obj} {od : Option Obj}
end
end SL
namespace SL
open PySem L2 PySem.Spec PyProof.Rows
section
variable {X : Cx} {CX : CXT} {k : Nat} {f C : Addr} {fd : FuncData} {ps : List Str} {sp : Sp} {E : XK}
end
end SL
namespace DY
open PySem L2 PySem.Spec PyProof.Rows
variable [Tb]
section
variable {X : Cx} {A : CT} {CX : CXT} {k : Nat} {f : Addr} {fd : FuncData} {ps : List Str} {E : XK} {F : Fn} {c : Nat}
end
end DY
namespace SL
open PySem L2 PySem.Spec PyProof.Rows
section
variable {X : Cx} {CX : CXT} {k n : Nat} {f C : Addr} {fd : FuncData} {ps ks : List Str} {sp : Sp} {E : XK} {x : Str} {p pos : Pos} {e : Expr} {es : List Expr} {kws : List Keyword} {t tk : TA} {g : List Value → List Value → List Value} {gV : List V → List V → List V}
end
end SL
namespace DY
open PySem L2 PySem.Spec PyProof.Rows
section
variable [Tb] {A : CT} {n : Nat} {E : XK} {ms ks : List Ev}
end
end DY

set_option Elab.async false
set_option linter.all false
set_option maxRecDepth 100000
set_option maxHeartbeats 1000000
namespace ZG
open PySem RZ
open PySem.Sem (wp)
section
variable {prog : Program} {w : World} {A : Around} {E : Value → Shared → Prop} {s : Shared}
end
end ZG

set_option Elab.async false
set_option linter.all false
set_option maxRecDepth 100000
set_option maxHeartbeats 1000000
/-! zip of any two of: a list, a tuple, a text -/
namespace ZG
open PySem PySem.Spec PyProof.Rows L2 RZ
section
variable {X : Cx} {pins : List (Addr × Obj)} {σ : L2.St} {H : Hp} {s : Shared} {S : Sv} {xs ys : List V} {t : Tok} {i : Addr} {k : Nat}
end
end ZG

set_option Elab.async false
set_option linter.all false
set_option maxRecDepth 100000
set_option maxHeartbeats 4000000
/-! ### zip of two, enumerate over a text -/
namespace DY
open PySem L2 PySem.Spec PyProof.Rows ZG
variable [Tb]
section
variable {K : PySem.W.Frag} {A : CT} {G G' H : Hp} {X : Cx} {tg e e2 : Expr} {me me2 : Ev} {p pos tpos : Pos} {elts : List Expr} {kk : Nat}
end
end DY

set_option Elab.async false
set_option linter.all false
set_option maxRecDepth 100000
set_option maxHeartbeats 4000000
/-! ### divmod, s[i], n = .., list.index -/
namespace DY
open PySem L2 PySem.Spec PyProof.Rows
variable [Tb]
section
variable {X : Cx} {A : CT} {o e b : Expr} {mo me mb : Ev} {apos pos pos' p tp : Pos} {x n : Str} {i j kk : Nat} {jo : Option Nat}
/-! ### list.index -/
end
end DY
/-! ### list(range(n)) -/
namespace DY
open PySem L2 PySem.Spec PyProof.Rows
variable [Tb]
section
variable {X : Cx} {A : CT} {e : Expr} {me : Ev} {p pos p2 pos2 : Pos}
end
end DY
/-! ### is True, is False of truths -/
namespace DY
open PySem L2 PySem.Spec PyProof.Rows
variable [Tb]
section
variable {X : Cx} {A : CT}
end
end DY

set_option Elab.async false
set_option linter.all false
set_option maxRecDepth 100000
set_option maxHeartbeats 4000000
/-! SLX6: defs that are called with the caught error and more; _law_caught(lambda: ..) -/
namespace SL
open PySem L2 PySem.Spec PyProof.Rows LamX
abbrev SpXn := Value → Option Addr → List V → Hp → VK → Prop
section
variable {P : Program} {w : World} {K : PySem.W.Frag} {mg : Str → Option Value} {base : Heap} {x qual : Str} {f : Addr} {fd : FuncData} {N ps : List Str} {k : Nat} {sp : SpXn}
end
/-! ### g(e, ..), in the suite -/
section
variable {X : Cx} {a f : Addr} {oe : Obj} {cls : Value} {d : Option Addr} {pn : List (Addr × Obj)} {x e : Str} {k i : Nat} {fd : FuncData} {sp : SpXn} {ps : List Str} {es : List Expr} {ta : TA} {p p2 pos : Pos}
end
/-! ### _law_caught -/
section
variable {X : Cx}
end
end SL

set_option Elab.async false
set_option linter.all false
set_option maxRecDepth 100000
set_option maxHeartbeats 4000000
/-! ### _law_caught(lambda: ..): a number of the error's class, and its attribute -/
namespace DY
open PySem L2 PySem.Spec PyProof.Rows LamX
/-! data that knows nothing of the error -/
section
variable {K : PySem.W.Frag} {A : CT} {G : Hp} {a : Addr} {l cs : List Nat}
end
variable [Tb]
section
variable {K : PySem.W.Frag} {A : CT} {G G' G1 G2 H H' H1 H2 : Hp} {σ : L2.St} {ρ ρ1 ρ2 ρ' : Env} {Q Q' : VK}
end
section
variable {P : Program} {w : World} {K : PySem.W.Frag} {mg : Str → Option Value} {base : Heap} {x qual e y : Str} {f : Addr} {fd : FuncData} {N : List Str} {k n : Nat} {A : CT} {mb : Nat → D → Sv} {l cs : List Nat}
end
section
variable {X : Cx} {A : CT}
end
/-! ### list.index of a truth -/
section
variable {X : Cx} {A : CT} {o e : Expr} {mo me : Ev} {apos pos : Pos}
end
end DY

set_option Elab.async false
set_option linter.all false
set_option maxRecDepth 100000
set_option maxHeartbeats 4000000
/-! ### errors out of a choice, a comparison, an attribute, a call of a method by name -/
namespace DY
open PySem L2 PySem.Spec PyProof.Rows
variable [Tb]
section
variable {X : Cx} {A : CT} {E : XK} {a b c e : Expr} {ma mb mc me : Ev} {ks : List Ev} {p pos : Pos} {n : Nat} {m : Str}
end
end DY

set_option Elab.async false
set_option linter.all false
set_option maxRecDepth 100000
set_option maxHeartbeats 4000000
/-! ### C.m(..), m a static method of the class C -/
namespace SL
open PySem L2 PySem.Spec PyProof.Rows
structure SMeth (K : PySem.W.Frag) (C : Addr) (m : Str) (f : Addr) : Prop where
  ga : PySem.W.specialIn K (.ref C) "__getattribute__" = some (some (.builtin "type.__getattribute__"))
  ex : ∃ mc p rest, PySem.W.readsIn K C mc = true ∧ PySem.W.findCls K (.ref C) mc m = some (.get (.builtin "staticmethod.__get__") (.ref p) .none (.ref C)) ∧ PySem.W.recIn K p "staticmethod" = some (.ref f :: rest)
  kp : PySem.W.keepIn K (.ref f) = true
section
variable {X : Cx} {CX : CXT} {k n : Nat} {f C : Addr} {fd : FuncData} {ps ks : List Str} {sp : Sp} {E : XK} {dvs : List V} {ds : List Value} {x m : Str} {p pos apos : Pos} {e o : Expr} {es : List Expr} {t tk : TA} {kws : List Keyword} {g : List Value → List Value → List Value} {gV : List V → List V → List V}
theorem getsm_ok {pins : List (Addr × Obj)} {σ : L2.St} {H : Hp} {s : Shared} {pl : Sem Bool} {Q : Value × List Value → Shared → Prop} (I : Inv X pins σ H s) (hm : SMeth X.K C m f) (h : Q (.ref f, []) { s with toks := s.toks + 1 }) : wpAny (model X.prog X.w) X.A (getMethod (.ref C) m pl) Q X.xe s := by
  obtain ⟨ga, ⟨mc, p, rest, h1, h2, h3⟩, kp⟩ := hm
  exact PySem.W.method_cls I.kIn ga (PySem.W.cls_bind I.kIn h1 h2 (wpAny_call (PySem.W.sm_get (s := { s with toks := s.toks + 1 }) I.kIn h3 (PySem.W.handed_on rfl h))))
theorem pe_smeth {pl : Sem Bool} (he : PE X o (tC (.ref C))) (hm : SMeth X.K C m f) (F : FnOk X.prog X.w X.K X.mg X.base CX k f fd ps sp) (hr : Room k X.A) (hb : Binds X.K fd ps ds) (hd : Vals dvs ds) (hx : Passes CX X E) (ha : PA X (e :: es) t)
    (hst : starEach (e :: es) X.env = (false, eval e X.env) :: starEach es X.env := by rfl) (hpl : (backTo pos (starEach es X.env)).any (·.1) = false := by rfl)
    (ht : eval (.Call (.Attribute o m apos) (e :: es) [] pos) X.env = (do
      let ov ← eval o X.env
      standAt apos.atName
      let (f, first) ← holding [ov] (getMethod ov m pl)
      callWith pos f first (backTo pos (starEach (e :: es) X.env)) (backToKw pos (keywordEach [] X.env))) := by rfl) : PE X (.Call (.Attribute o m apos) (e :: es) [] pos) (tCall sp dvs E t) := ⟨fun pins s σ H Q I h => by
  refine PySem.W.methodCall_KW (pl := pl) (thn (he.run pins s σ H (fun v H1 => v = .ref C ∧ H1 = H) I ⟨rfl, rfl⟩) fun u s1 ⟨x, H1, I1, rx, ex, eH⟩ => ?_) ht
  subst ex eH
  obtain rfl : u = Value.ref C := rx
  refine getsm_ok I1 hm ?_
  have I2 : Inv X pins σ H1 { s1 with toks := s1.toks + 1 } := I1.tok _
  exact PySem.W.callWith_K (first := []) (h₀ := X.base) I.ok.mod.kin hm.kp (thn (ha.run pos pins _ σ H1 _ I2 h) fun us s2 ⟨vs, H2, I3, r, q2⟩ => ⟨I3.kIn, run_fn (us := us) (vs := vs) F hr hb hd hx I3 r q2⟩) hst hpl⟩
def tSmK (n m : Nat) (sp : Sp) (gV : List V → List V → List V) (E : XK) (t tk : TA) : TE := fun σ H Q => t σ H fun vs H1 => tk σ H1 fun zs H2 => vs.length = n ∧ zs.length = m ∧ sp (gV vs zs) H2 Q E
theorem pe_smethK0 {pl : Sem Bool} (he : PE X o (tC (.ref C))) (hm : SMeth X.K C m f) (F : FnOk X.prog X.w X.K X.mg X.base CX k f fd ps sp) (hr : Room k X.A) (hb : KBn X.K fd ps 0 ks g gV) (hx : Passes CX X E) (hkw : PK X kws tk)
    (hall : (backToKw pos (keywordEach kws X.env)).all (·.1.isSome) = true := by rfl) (hks : (backToKw pos (keywordEach kws X.env)).filterMap (·.1) = ks := by rfl)
    (hpl : ((backTo pos (starEach [] X.env)).any (·.1) || (backToKw pos (keywordEach kws X.env)).any (·.1.isNone)) = false := by rfl)
    (ht : eval (.Call (.Attribute o m apos) [] kws pos) X.env = (do
      let ov ← eval o X.env
      standAt apos.atName
      let (f, first) ← holding [ov] (getMethod ov m pl)
      callWith pos f first (backTo pos (starEach [] X.env)) (backToKw pos (keywordEach kws X.env))) := by rfl) :
    PE X (.Call (.Attribute o m apos) [] kws pos) (tSmK 0 ks.length sp gV E tNil tk) := ⟨fun pins s σ H Q I h => by
  refine PySem.W.methodCall_KW (pl := pl) (thn (he.run pins s σ H (fun v H1 => v = .ref C ∧ H1 = H) I ⟨rfl, rfl⟩) fun u s1 ⟨x, H1, I1, rx, ex, eH⟩ => ?_) ht
  subst ex eH
  obtain rfl : u = Value.ref C := rx
  refine getsm_ok I1 hm ?_
  have I2 : Inv X pins σ H1 { s1 with toks := s1.toks + 1 } := I1.tok _
  refine PySem.W.callWith_KW0 (first := []) (h₀ := X.base) I.ok.mod.kin hm.kp hall ?_ hpl
  refine thn (hkw.run pos pins _ σ H1 _ I2 h) fun ws s2 ⟨zs, H2, I3, rz, l1, l2, q2⟩ => ⟨I3.kIn, ?_⟩
  rw [hks]
  exact run_fnN (us := []) (vs := []) F hr hb hx I3 .nil rz rfl l2 q2⟩
end
end SL
namespace DY
open PySem L2 PySem.Spec PyProof.Rows
variable [Tb]
section
variable {X : Cx} {A : CT} {CX : CXT} {k n : Nat} {f C : Addr} {fd : FuncData} {ps : List Str} {E : XK} {a : Expr} {ms ks : List Ev}
/-- any call with the reading of a call -/
theorem pd_callP {F : Fn} (hF : ∀ ds r, F ds = .ok r → ds.length = n) (hp : PE X a (tCall (spF X.K A F n) [] E (liftA X.K A ms))) : PD A X a (eN F ms) := PE.imp hp fun σ H Q h => by
  refine call_use (dds := []) hF (fun _ => .nil) ?_
  rw [app_nil]; exact h
theorem px_callP {F : Fn} (hn : NEs ms) (hF : ∀ ds d, F ds = .ex d → ds.length = n) (hp : PE X a (tCall (spFx X.K A F n) [] E (liftA X.K A ms))) : PX A X E a (eN F ms) := PE.imp hp fun σ H Q h => TA_mono (n_useX hn h) fun vs H1 q => by
  obtain ⟨G, ds, d, s, rs, e, kk⟩ := q
  show spFx X.K A F n (vs ++ []) H1 Q E
  rw [List.append_nil]
  exact ⟨by rw [rs.len]; exact hF _ _ e, G, ds, d, s, rs, e, kk⟩
theorem pd_callPK {F : Fn} {nk : Nat} {gV : List V → List V → List V} {g : List D → List D → List D} (hF : ∀ ds r, F ds = .ok r → ds.length = n) (hg : GV gV g) (hp : PE X a (SL.tSmK 0 nk (spF X.K A F n) gV E tNil (liftA X.K A ks))) (h2 : nk = ks.length) : PD A X a (eNK F g [] ks) := PE.imp hp fun σ H Q h => by
  obtain ⟨G, ρ, r, ρ', s, e, kk⟩ := h
  obtain ⟨⟨xs, ρ2⟩, e3, e⟩ := bind_ok e
  cases e3
  obtain ⟨⟨zs, ρ3⟩, e5, e⟩ := bind_ok e
  obtain ⟨r', e4, e⟩ := bind_ok e
  cases e
  refine ⟨G, ρ, zs, _, s, e5, fun ws G3 H3 n3 r3 => ⟨rfl, by rw [r3.len, evs_len e5, h2], ?_⟩⟩
  have rr := hg.rel (Reps.nil (K := X.K) (A := A) (G := G3)) r3
  exact ⟨by rw [rr.len]; exact hF _ _ e4, G3, _, r, n3.st.sub, rr, e4, end_of n3 kk⟩
/-- str(a) where a may raise -/
theorem px_callTy {T : String} {x : Str} {a : Expr} {ma : Ev} {F : List D → R Rv} {E : XK} {p pos : Pos} (hf : NN F) (hb : PX A X E a ma) (hg : Gl X x) (hm : X.mg x = none) (hv : bootBuiltins x = some (.type T)) (hn : x ≠ "__name__" := by decide) (hdb : (x == ("__debug__" : Str)) = false := by decide)
    (he : starEach [a] X.env = (false, eval a X.env) :: starEach [] X.env := by rfl) (hpl : (backTo pos (starEach [] X.env)).any (·.1) = false := by rfl) : PX A X E (.Call (.Name x p) [a] [] pos) (eN F [ma]) :=
  PE.imp (pe_callTy (r := fun _ _ _ => False) (fun _ _ _ _ _ _ _ _ _ h => h.elim) hg hm hv (pa_cons hb pa_nil he) hn hdb he hpl) fun σ H Q h => lx_n1 (Q' := fun _ _ => False) hf h
end
end DY

set_option Elab.async false
set_option linter.all false
set_option maxRecDepth 100000
set_option maxHeartbeats 4000000
namespace DY
open PySem L2 SL
def fdNmsA : List (String × String × String × Bool) := [("Ratio___init__", "__init__", "Ratio.__init__", true)]
open Lean in
def fdOfA (x : Ident) : MacroM Term := do
  let s := x.getId.toString
  let i (p : String) : Ident := mkIdent (Name.mkSimple (p ++ s))
  let (n, q, b) := (fdNmsA.lookup s).getD (s, s, false)
  let d ← if b then `(.ref $(i "dt_")) else `(.none)
  `(PySem.W.fnOf $(quote n) $(quote q) (defArgs $(i "st_")) (defBody $(i "st_")) (defScope $(i "st_")) $d $(i "kV_") $(i "dc_") $(i "pm_") $(i "an_") $(i "cd_") $(i "ct_"))
open Lean in
local macro_rules
  | `(unop% $f:ident $x:ident) => do
    if f.getId != `fd then Macro.throwUnsupported
    if x.getId == `lr then `(by first | exact Or.inl rfl | exact Or.inr rfl) else fdOfA x
section Tbs
variable [Tb]
/-! ### the text by places -/
def topS (i : Nat) : Stmt := PySem.Challenge.pw_slackstrings_k03_texts_of_ratios.main.body.getD i (.Pass ⟨0, 0, 0, 0⟩)
abbrev st__law_told : Stmt := (topS 21)
abbrev st__law_bag : Stmt := (topS 17)
abbrev st_is_integer : Stmt := (topS 2)
abbrev st_shared_factor : Stmt := (topS 10)
abbrev st_Ratio___init__ : Stmt := (inClass (topS 15) 0)
abbrev st_as_ratio : Stmt := (topS 12)
abbrev st_is_fraction : Stmt := (topS 11)
abbrev st_Ratio___eq__ : Stmt := (inClass (topS 15) 11)
abbrev st_Ratio___str__ : Stmt := (inClass (topS 15) 12)
abbrev st_is_written : Stmt := (topS 13)
abbrev st_ratio_in : Stmt := (topS 14)
abbrev st_Ratio_read : Stmt := (inClass (topS 15) 1)
abbrev st__law_draw : Stmt := (topS 18)
abbrev st__law_lowest : Stmt := (topS 20)
abbrev st__law_one : Stmt := (topS 19)
abbrev st__law_written : Stmt := (topS 23)
abbrev st__law_read : Stmt := (topS 24)
abbrev st__law_sort : Stmt := (topS 22)
abbrev st__law_right : Stmt := (topS 25)
abbrev st_law : Stmt := (topS 26)
abbrev nm__law_told : List Str := ["_law_act", "_law_got", "_law_e"]
abbrev nm__law_bag : List Str := ["_law_cells", "_law_k", "_law_cell", "_law_seed", "_law_this", "_law_figures"]
abbrev nm_is_integer : List Str := ["value"]
abbrev nm_shared_factor : List Str := ["one", "two", "high", "low"]
abbrev nm_Ratio___init__ : List Str := ["self", "top", "bottom", "factor"]
abbrev nm_as_ratio : List Str := ["value"]
abbrev nm_is_fraction : List Str := ["value"]
abbrev nm_Ratio___eq__ : List Str := ["self", "other", "by"]
abbrev nm_Ratio___str__ : List Str := ["self"]
abbrev nm_is_written : List Str := ["text", "sign"]
abbrev nm_ratio_in : List Str := ["text", "sign", "first", "line", "second", "bottom"]
abbrev nm_Ratio_read : List Str := ["text", "found"]
abbrev nm__law_draw : List Str := ["_law_bag_here", "_law_wide", "_law_figure", "_law_held", "_law_times"]
abbrev nm__law_lowest : List Str := ["_law_upper", "_law_lower", "_law_one_here", "_law_two", "_law_by"]
abbrev nm__law_one : List Str := ["_law_bag_here", "_law_some"]
abbrev nm__law_written : List Str := ["_law_pair"]
abbrev nm__law_read : List Str := ["_law_line", "_law_bits", "_law_bit", "_law_sign", "_law_pair"]
abbrev nm__law_sort : List Str := ["_law_e", "_law_bases", "_law_kinds", "_law_found"]
abbrev nm__law_right : List Str := ["_law_bag_here", "_law_turn", "_law_upper", "_law_pair", "_law_line", "_law_mine", "_law_at", "_law_more", "_law_ways", "_law_made", "_law_told_here", "_law_some", "_law_odd"]
abbrev nm_law : List Str := ["_law_cells", "_law_k"]
theorem sc__law_told : FnScope nm__law_told ["_law_act"] (defScope st__law_told) := ⟨rfl, rfl, rfl, by decide +kernel, rfl, by decide +kernel, by decide +kernel⟩
theorem sc__law_bag : FnScope nm__law_bag ["_law_cells", "_law_k"] (defScope st__law_bag) := ⟨rfl, rfl, rfl, by decide +kernel, rfl, by decide +kernel, by decide +kernel⟩
theorem sc_is_integer : FnScope nm_is_integer ["value"] (defScope st_is_integer) := ⟨rfl, rfl, rfl, by decide +kernel, rfl, by decide +kernel, by decide +kernel⟩
theorem sc_shared_factor : FnScope nm_shared_factor ["one", "two"] (defScope st_shared_factor) := ⟨rfl, rfl, rfl, by decide +kernel, rfl, by decide +kernel, by decide +kernel⟩
theorem sc_Ratio___init__ : FnScope nm_Ratio___init__ ["self", "top", "bottom"] (defScope st_Ratio___init__) := ⟨rfl, rfl, rfl, by decide +kernel, rfl, by decide +kernel, by decide +kernel⟩
theorem sc_as_ratio : FnScope nm_as_ratio ["value"] (defScope st_as_ratio) := ⟨rfl, rfl, rfl, by decide +kernel, rfl, by decide +kernel, by decide +kernel⟩
theorem sc_is_fraction : FnScope nm_is_fraction ["value"] (defScope st_is_fraction) := ⟨rfl, rfl, rfl, by decide +kernel, rfl, by decide +kernel, by decide +kernel⟩
theorem sc_Ratio___eq__ : FnScope nm_Ratio___eq__ ["self", "other"] (defScope st_Ratio___eq__) := ⟨rfl, rfl, rfl, by decide +kernel, rfl, by decide +kernel, by decide +kernel⟩
theorem sc_Ratio___str__ : FnScope nm_Ratio___str__ ["self"] (defScope st_Ratio___str__) := ⟨rfl, rfl, rfl, by decide +kernel, rfl, by decide +kernel, by decide +kernel⟩
theorem sc_is_written : FnScope nm_is_written ["text"] (defScope st_is_written) := ⟨rfl, rfl, rfl, by decide +kernel, rfl, by decide +kernel, by decide +kernel⟩
theorem sc_ratio_in : FnScope nm_ratio_in ["text"] (defScope st_ratio_in) := ⟨rfl, rfl, rfl, by decide +kernel, rfl, by decide +kernel, by decide +kernel⟩
theorem sc_Ratio_read : FnScope nm_Ratio_read ["text"] (defScope st_Ratio_read) := ⟨rfl, rfl, rfl, by decide +kernel, rfl, by decide +kernel, by decide +kernel⟩
theorem sc__law_draw : FnScope nm__law_draw ["_law_bag_here", "_law_wide"] (defScope st__law_draw) := ⟨rfl, rfl, rfl, by decide +kernel, rfl, by decide +kernel, by decide +kernel⟩
theorem sc__law_lowest : FnScope nm__law_lowest ["_law_upper", "_law_lower"] (defScope st__law_lowest) := ⟨rfl, rfl, rfl, by decide +kernel, rfl, by decide +kernel, by decide +kernel⟩
theorem sc__law_one : FnScope nm__law_one ["_law_bag_here", "_law_some"] (defScope st__law_one) := ⟨rfl, rfl, rfl, by decide +kernel, rfl, by decide +kernel, by decide +kernel⟩
theorem sc__law_written : FnScope nm__law_written ["_law_pair"] (defScope st__law_written) := ⟨rfl, rfl, rfl, by decide +kernel, rfl, by decide +kernel, by decide +kernel⟩
theorem sc__law_read : FnScope nm__law_read ["_law_line"] (defScope st__law_read) := ⟨rfl, rfl, rfl, by decide +kernel, rfl, by decide +kernel, by decide +kernel⟩
theorem sc__law_sort : FnScope nm__law_sort ["_law_e"] (defScope st__law_sort) := ⟨rfl, rfl, rfl, by decide +kernel, rfl, by decide +kernel, by decide +kernel⟩
theorem sc__law_right : FnScope nm__law_right ["_law_bag_here"] (defScope st__law_right) := ⟨rfl, rfl, rfl, by decide +kernel, rfl, by decide +kernel, by decide +kernel⟩
theorem sc_law : FnScope nm_law ["_law_cells"] (defScope st_law) := ⟨rfl, rfl, rfl, by decide +kernel, rfl, by decide +kernel, by decide +kernel⟩
/-- the defs' addresses and data -/
abbrev xlL : List Nat := [20, 22, 44, 56]
structure Fx where
  f__law_told : Addr
  d__law_told : FuncData
  f__law_bag : Addr
  d__law_bag : FuncData
  f_is_integer : Addr
  d_is_integer : FuncData
  f_shared_factor : Addr
  d_shared_factor : FuncData
  f_Ratio___init__ : Addr
  d_Ratio___init__ : FuncData
  f_as_ratio : Addr
  d_as_ratio : FuncData
  f_is_fraction : Addr
  d_is_fraction : FuncData
  f_Ratio___eq__ : Addr
  d_Ratio___eq__ : FuncData
  f_Ratio___str__ : Addr
  d_Ratio___str__ : FuncData
  f_is_written : Addr
  d_is_written : FuncData
  f_ratio_in : Addr
  d_ratio_in : FuncData
  f_Ratio_read : Addr
  d_Ratio_read : FuncData
  f__law_draw : Addr
  d__law_draw : FuncData
  f__law_lowest : Addr
  d__law_lowest : FuncData
  f__law_one : Addr
  d__law_one : FuncData
  f__law_written : Addr
  d__law_written : FuncData
  f__law_read : Addr
  d__law_read : FuncData
  f__law_sort : Addr
  d__law_sort : FuncData
  f__law_right : Addr
  d__law_right : FuncData
  f_law : Addr
  d_law : FuncData
  xi_InvalidText : Addr
  c__law_right : Addr
  p__law_right : Addr
/-- what the top has written -/
structure Txt (K : PySem.W.Frag) (mg : Str → Option Value) (base : Heap) (A : CT) (x : Fx) : Prop where
  kd : KD K A
  b0 : ∀ p, Tb.base p = none
  in_Ratio : 0 ∈ A.cs
  F__law_told : Fun K "_law_told" "_law_told" st__law_told x.f__law_told x.d__law_told
  b__law_told : Binds K x.d__law_told ["_law_act"] []
  F__law_bag : Fun K "_law_bag" "_law_bag" st__law_bag x.f__law_bag x.d__law_bag
  b__law_bag : Binds K x.d__law_bag ["_law_cells", "_law_k"] []
  F_is_integer : Fun K "is_integer" "is_integer" st_is_integer x.f_is_integer x.d_is_integer
  b_is_integer : Binds K x.d_is_integer ["value"] []
  F_shared_factor : Fun K "shared_factor" "shared_factor" st_shared_factor x.f_shared_factor x.d_shared_factor
  b_shared_factor : Binds K x.d_shared_factor ["one", "two"] []
  F_Ratio___init__ : FunD K "__init__" "Ratio.__init__" (defArgs st_Ratio___init__) (defBody st_Ratio___init__) (defScope st_Ratio___init__) [.int 1] [] x.f_Ratio___init__ x.d_Ratio___init__
  b_Ratio___init__ : Binds K x.d_Ratio___init__ ["self", "top", "bottom"] []
  F_as_ratio : Fun K "as_ratio" "as_ratio" st_as_ratio x.f_as_ratio x.d_as_ratio
  b_as_ratio : Binds K x.d_as_ratio ["value"] []
  F_is_fraction : Fun K "is_fraction" "is_fraction" st_is_fraction x.f_is_fraction x.d_is_fraction
  b_is_fraction : Binds K x.d_is_fraction ["value"] []
  F_Ratio___eq__ : Fun K "__eq__" "Ratio.__eq__" st_Ratio___eq__ x.f_Ratio___eq__ x.d_Ratio___eq__
  b_Ratio___eq__ : Binds K x.d_Ratio___eq__ ["self", "other"] []
  F_Ratio___str__ : Fun K "__str__" "Ratio.__str__" st_Ratio___str__ x.f_Ratio___str__ x.d_Ratio___str__
  b_Ratio___str__ : Binds K x.d_Ratio___str__ ["self"] []
  F_is_written : Fun K "is_written" "is_written" st_is_written x.f_is_written x.d_is_written
  b_is_written : Binds K x.d_is_written ["text"] []
  F_ratio_in : Fun K "ratio_in" "ratio_in" st_ratio_in x.f_ratio_in x.d_ratio_in
  b_ratio_in : Binds K x.d_ratio_in ["text"] []
  F_Ratio_read : Fun K "read" "Ratio.read" st_Ratio_read x.f_Ratio_read x.d_Ratio_read
  b_Ratio_read : Binds K x.d_Ratio_read ["text"] []
  F__law_draw : Fun K "_law_draw" "_law_draw" st__law_draw x.f__law_draw x.d__law_draw
  b__law_draw : Binds K x.d__law_draw ["_law_bag_here", "_law_wide"] []
  F__law_lowest : Fun K "_law_lowest" "_law_lowest" st__law_lowest x.f__law_lowest x.d__law_lowest
  b__law_lowest : Binds K x.d__law_lowest ["_law_upper", "_law_lower"] []
  F__law_one : Fun K "_law_one" "_law_one" st__law_one x.f__law_one x.d__law_one
  b__law_one : Binds K x.d__law_one ["_law_bag_here", "_law_some"] []
  F__law_written : Fun K "_law_written" "_law_written" st__law_written x.f__law_written x.d__law_written
  b__law_written : Binds K x.d__law_written ["_law_pair"] []
  F__law_read : Fun K "_law_read" "_law_read" st__law_read x.f__law_read x.d__law_read
  b__law_read : Binds K x.d__law_read ["_law_line"] []
  F__law_sort : Fun K "_law_sort" "_law_sort" st__law_sort x.f__law_sort x.d__law_sort
  b__law_sort : Binds K x.d__law_sort ["_law_e"] []
  F__law_right : Fun K "_law_right" "_law_right" st__law_right x.f__law_right x.d__law_right
  b__law_right : Binds K x.d__law_right ["_law_bag_here"] []
  F_law : Fun K "law" "law" st_law x.f_law x.d_law
  b_law : Binds K x.d_law ["_law_cells"] []
  x99 : 99 ∉ A.xs
  c99 : 99 ∉ A.cs
  xa : ∀ c ∈ A.xs, SL.XA K (A.ad c)
  exm : ∀ n ∈ A.xs, PySem.W.exmAny K (.ref (A.ad n)) [.ref (A.ad 20), .ref (A.ad 44), .ref (A.ad 56)] = some true
  hk : ∀ c ∈ A.xs, ∀ (a : Addr) y b, isxF c y = some b → ∃ cv, PySem.W.kitOne K (.ref (A.ad c)) cv = some b ∧ ∀ (G : Hp) (v : V) (u : Value), Rep K (A.err a xlL) G v y → RelV v u → u = cv
  xn_value : ∀ c, gx_value c = true → A.nms c = [("value" : Str)]
  xf_value : ∀ c ∈ A.xs, PySem.W.findIn K (.ref (A.ad c)) "value" = some none
  g_ShapeError : mg "ShapeError" = some (.ref (A.ad 20))
  g_InvalidText : mg "InvalidText" = some (.ref (A.ad 22))
  g_QuestionError : mg "QuestionError" = some (.ref (A.ad 44))
  g_SizeError : mg "SizeError" = some (.ref (A.ad 56))
  xin_InvalidText : 22 ∈ A.xs
  xm_InvalidText : A.nms 22 = [("value" : Str)]
  xc_InvalidText : SL.XC K (A.ad 22) x.xi_InvalidText "value"
  tB__law_right : LamX.TabB base mg x.c__law_right x.p__law_right
  cd__law_right : x.d__law_right.code = .ref x.c__law_right
  tm__law_right : (x.p__law_right, (PyProof.Rows.envOfC "_law_right" (defScope st__law_right) 0 0 .none).qual ++ "<lambda>") ∈ Tb.T
  tu__law_right : ∀ p ∈ Tb.T, p.1 = x.p__law_right → p.2 = (PyProof.Rows.envOfC "_law_right" (defScope st__law_right) 0 0 .none).qual ++ "<lambda>"
  g__law_bag : mg "_law_bag" = some (.ref x.f__law_bag)
  g__law_draw : mg "_law_draw" = some (.ref x.f__law_draw)
  g__law_lowest : mg "_law_lowest" = some (.ref x.f__law_lowest)
  g__law_one : mg "_law_one" = some (.ref x.f__law_one)
  g__law_read : mg "_law_read" = some (.ref x.f__law_read)
  g__law_right : mg "_law_right" = some (.ref x.f__law_right)
  g__law_sort : mg "_law_sort" = some (.ref x.f__law_sort)
  g__law_told : mg "_law_told" = some (.ref x.f__law_told)
  g__law_written : mg "_law_written" = some (.ref x.f__law_written)
  g_as_ratio : mg "as_ratio" = some (.ref x.f_as_ratio)
  g_is_fraction : mg "is_fraction" = some (.ref x.f_is_fraction)
  g_is_integer : mg "is_integer" = some (.ref x.f_is_integer)
  g_is_written : mg "is_written" = some (.ref x.f_is_written)
  g_ratio_in : mg "ratio_in" = some (.ref x.f_ratio_in)
  g_shared_factor : mg "shared_factor" = some (.ref x.f_shared_factor)
  n_ArithmeticError : mg "ArithmeticError" = none
  n_LookupError : mg "LookupError" = none
  n_ValueError : mg "ValueError" = none
  n_abs : mg "abs" = none
  n_all : mg "all" = none
  n_bool : mg "bool" = none
  n_int : mg "int" = none
  n_isinstance : mg "isinstance" = none
  n_len : mg "len" = none
  n_max : mg "max" = none
  n_min : mg "min" = none
  n_range : mg "range" = none
  n_repr : mg "repr" = none
  n_str : mg "str" = none
  g_Ratio : mg "Ratio" = some (.ref (A.ad 0))
  cl_Ratio : Cls K (A.ad 0)
  nl_Ratio : (A.nms 0).length ≤ 900
  sf_Ratio : PySem.W.selfFirst K (A.ad 0) = true
  int_Ratio : PySem.W.subIn K (.type "int") (.ref (A.ad 0)) = some false
  sub_Ratio : PySem.W.subIn K (.ref (A.ad 0)) (.type "int") = some false
  mk_Ratio : Mk K (A.ad 0) x.f_Ratio___init__
  fl_Ratio_bottom : FldOk K A 0 1 "bottom"
  fl_Ratio_top : FldOk K A 0 0 "top"
  sm_Ratio_read : SL.SMeth K (A.ad 0) "read" x.f_Ratio_read
  o_Ratio_eq : OwnOp K (A.ad 0) x.f_Ratio___eq__ "__eq__"
  ne_Ratio : PySem.W.findIn K (.ref (A.ad 0)) "__ne__" = some (some (.builtin "object.__ne__"))
  ob_Ratio : PySem.W.subIn K (.ref (A.ad 0)) (.type "object") = some true
  o_Ratio_str : OwnOp K (A.ad 0) x.f_Ratio___str__ "__str__"
  kb_Ratio_read_0_text : ∃ g, KBn K x.d_Ratio_read ["text"] 0 ["text"] g (prm [0])
  bd_Ratio___init___1 : ∃ ds, Vals [.int 1] ds ∧ Binds K x.d_Ratio___init__ ["self", "top", "bottom"] ds
theorem Txt.kp__law_told {K : PySem.W.Frag} {mg : Str → Option Value} {base : Heap} {A : CT} {x : Fx} (T : Txt K mg base A x) : PySem.W.keepIn K (.ref x.f__law_told) = true := T.F__law_told.kp
theorem Txt.kp__law_bag {K : PySem.W.Frag} {mg : Str → Option Value} {base : Heap} {A : CT} {x : Fx} (T : Txt K mg base A x) : PySem.W.keepIn K (.ref x.f__law_bag) = true := T.F__law_bag.kp
theorem Txt.kp_is_integer {K : PySem.W.Frag} {mg : Str → Option Value} {base : Heap} {A : CT} {x : Fx} (T : Txt K mg base A x) : PySem.W.keepIn K (.ref x.f_is_integer) = true := T.F_is_integer.kp
theorem Txt.kp_shared_factor {K : PySem.W.Frag} {mg : Str → Option Value} {base : Heap} {A : CT} {x : Fx} (T : Txt K mg base A x) : PySem.W.keepIn K (.ref x.f_shared_factor) = true := T.F_shared_factor.kp
theorem Txt.kp_Ratio___init__ {K : PySem.W.Frag} {mg : Str → Option Value} {base : Heap} {A : CT} {x : Fx} (T : Txt K mg base A x) : PySem.W.keepIn K (.ref x.f_Ratio___init__) = true := T.F_Ratio___init__.kp
theorem Txt.kp_as_ratio {K : PySem.W.Frag} {mg : Str → Option Value} {base : Heap} {A : CT} {x : Fx} (T : Txt K mg base A x) : PySem.W.keepIn K (.ref x.f_as_ratio) = true := T.F_as_ratio.kp
theorem Txt.kp_is_fraction {K : PySem.W.Frag} {mg : Str → Option Value} {base : Heap} {A : CT} {x : Fx} (T : Txt K mg base A x) : PySem.W.keepIn K (.ref x.f_is_fraction) = true := T.F_is_fraction.kp
theorem Txt.kp_Ratio___eq__ {K : PySem.W.Frag} {mg : Str → Option Value} {base : Heap} {A : CT} {x : Fx} (T : Txt K mg base A x) : PySem.W.keepIn K (.ref x.f_Ratio___eq__) = true := T.F_Ratio___eq__.kp
theorem Txt.kp_Ratio___str__ {K : PySem.W.Frag} {mg : Str → Option Value} {base : Heap} {A : CT} {x : Fx} (T : Txt K mg base A x) : PySem.W.keepIn K (.ref x.f_Ratio___str__) = true := T.F_Ratio___str__.kp
theorem Txt.kp_is_written {K : PySem.W.Frag} {mg : Str → Option Value} {base : Heap} {A : CT} {x : Fx} (T : Txt K mg base A x) : PySem.W.keepIn K (.ref x.f_is_written) = true := T.F_is_written.kp
theorem Txt.kp_ratio_in {K : PySem.W.Frag} {mg : Str → Option Value} {base : Heap} {A : CT} {x : Fx} (T : Txt K mg base A x) : PySem.W.keepIn K (.ref x.f_ratio_in) = true := T.F_ratio_in.kp
theorem Txt.kp_Ratio_read {K : PySem.W.Frag} {mg : Str → Option Value} {base : Heap} {A : CT} {x : Fx} (T : Txt K mg base A x) : PySem.W.keepIn K (.ref x.f_Ratio_read) = true := T.F_Ratio_read.kp
theorem Txt.kp__law_draw {K : PySem.W.Frag} {mg : Str → Option Value} {base : Heap} {A : CT} {x : Fx} (T : Txt K mg base A x) : PySem.W.keepIn K (.ref x.f__law_draw) = true := T.F__law_draw.kp
theorem Txt.kp__law_lowest {K : PySem.W.Frag} {mg : Str → Option Value} {base : Heap} {A : CT} {x : Fx} (T : Txt K mg base A x) : PySem.W.keepIn K (.ref x.f__law_lowest) = true := T.F__law_lowest.kp
theorem Txt.kp__law_one {K : PySem.W.Frag} {mg : Str → Option Value} {base : Heap} {A : CT} {x : Fx} (T : Txt K mg base A x) : PySem.W.keepIn K (.ref x.f__law_one) = true := T.F__law_one.kp
theorem Txt.kp__law_written {K : PySem.W.Frag} {mg : Str → Option Value} {base : Heap} {A : CT} {x : Fx} (T : Txt K mg base A x) : PySem.W.keepIn K (.ref x.f__law_written) = true := T.F__law_written.kp
theorem Txt.kp__law_read {K : PySem.W.Frag} {mg : Str → Option Value} {base : Heap} {A : CT} {x : Fx} (T : Txt K mg base A x) : PySem.W.keepIn K (.ref x.f__law_read) = true := T.F__law_read.kp
theorem Txt.kp__law_sort {K : PySem.W.Frag} {mg : Str → Option Value} {base : Heap} {A : CT} {x : Fx} (T : Txt K mg base A x) : PySem.W.keepIn K (.ref x.f__law_sort) = true := T.F__law_sort.kp
theorem Txt.kp__law_right {K : PySem.W.Frag} {mg : Str → Option Value} {base : Heap} {A : CT} {x : Fx} (T : Txt K mg base A x) : PySem.W.keepIn K (.ref x.f__law_right) = true := T.F__law_right.kp
theorem Txt.kp_law {K : PySem.W.Frag} {mg : Str → Option Value} {base : Heap} {A : CT} {x : Fx} (T : Txt K mg base A x) : PySem.W.keepIn K (.ref x.f_law) = true := T.F_law.kp
end Tbs
/-- what is wanted of the law's own def -/
def OkLaw : Prop := ∀ [Tb] (P : Program) (w : World) (K : PySem.W.Frag) (mg : Str → Option Value) (base : Heap) (A : CT) (x : Fx), Txt K mg base A x → FnOk P w K mg base (L2.CX P w) 14 x.f_law x.d_law ["_law_cells"] (sp_law K)
/-! ### what the top has written, gathered -/
theorem all_mk (OL : OkLaw) {l : PySem.W.OpenLaw} {q : Program} {w : World} {K : PySem.W.Frag} {h : Heap} {mg : Str → Option Value} {fa : Addr} (X : K.In h) (G : h.Ns mainGlobals mg) (hfa : mg "law" = some (.ref fa))
    (tab : ∀ (x : Str) (c P : Addr), ((PyProof.Rows.recsOf q).any fun e => e.name == x) = true → PySem.W.tabIn K x = some (c, P) → PySem.W.CodeHd h c P ∧ h.get? P = some { cls := .none, data := .fields #[] })
    {C_Ratio : Addr}
    {f__law_told : Addr}
    {f__law_bag : Addr}
    {f_is_integer : Addr}
    {f_shared_factor : Addr}
    {f_Ratio___init__ : Addr} {od_Ratio___init__ an_Ratio___init__ : Option Addr} {sl_Ratio___init__ : Array (Option Value)} {oc_Ratio___init__ kV_Ratio___init__ dc_Ratio___init__ pm_Ratio___init__ cd_Ratio___init__ ct_Ratio___init__ : Value}
    {dt_Ratio___init__ : Addr} {to_Ratio___init__ : Value} {td_Ratio___init__ : Option Addr} {tn_Ratio___init__ : Nat} {ts_Ratio___init__ : Array (Option Value)} {tv_Ratio___init__ : Array Value}
    {f_as_ratio : Addr}
    {f_is_fraction : Addr}
    {f_Ratio___eq__ : Addr}
    {f_Ratio___str__ : Addr}
    {f_is_written : Addr}
    {f_ratio_in : Addr}
    {f_Ratio_read : Addr}
    {sp_Ratio_read : Addr} {sr_Ratio_read : List Value} {mc_Ratio_read : Value}
    {f__law_draw : Addr}
    {f__law_lowest : Addr}
    {f__law_one : Addr}
    {f__law_written : Addr}
    {f__law_read : Addr}
    {f__law_sort : Addr}
    {f__law_right : Addr} {od__law_right an__law_right : Option Addr} {sl__law_right : Array (Option Value)} {oc__law_right kV__law_right dc__law_right pm__law_right cd__law_right ct__law_right : Value}
    {f_law : Addr} {od_law an_law : Option Addr} {sl_law : Array (Option Value)} {oc_law kV_law dc_law pm_law cd_law ct_law : Value}
    {C_ShapeError : Addr}
    {C_InvalidText : Addr}
    {C_QuestionError : Addr}
    {C_SizeError : Addr}
    {xi_InvalidText : Addr} {xq_InvalidText : Str} {xo_InvalidText : Value} {xd_InvalidText xn_InvalidText : Option Addr} {xdc_InvalidText xpm_InvalidText xcd_InvalidText xct_InvalidText : Value} {xsl_InvalidText : Array (Option Value)} {xp1_InvalidText xp2_InvalidText xp3_InvalidText xp4_InvalidText xp5_InvalidText xp6_InvalidText : Pos}
    {co__law_right P__law_right : Addr} {ce__law_right : Value} {cdd__law_right : Option Addr} {cv__law_right : Array Value} {csl__law_right : Array (Option Value)}
    (aC_Ratio : PySem.W.nsIn K mainGlobals "Ratio" = some (some (.ref C_Ratio)))
    (a__law_told : PySem.W.nsIn K mainGlobals "_law_told" = some (some (.ref f__law_told)))
    (E__law_told : ∃ d, Fun K "_law_told" "_law_told" st__law_told f__law_told d)
    (a__law_bag : PySem.W.nsIn K mainGlobals "_law_bag" = some (some (.ref f__law_bag)))
    (E__law_bag : ∃ d, Fun K "_law_bag" "_law_bag" st__law_bag f__law_bag d)
    (a_is_integer : PySem.W.nsIn K mainGlobals "is_integer" = some (some (.ref f_is_integer)))
    (E_is_integer : ∃ d, Fun K "is_integer" "is_integer" st_is_integer f_is_integer d)
    (a_shared_factor : PySem.W.nsIn K mainGlobals "shared_factor" = some (some (.ref f_shared_factor)))
    (E_shared_factor : ∃ d, Fun K "shared_factor" "shared_factor" st_shared_factor f_shared_factor d)
    (a_Ratio___init__ : PySem.W.findIn K (.ref C_Ratio) "__init__" = some (some (.ref f_Ratio___init__)))
    (i_Ratio___init__ : PySem.W.isFn K (.ref f_Ratio___init__) = true)
    (l_Ratio___init__ : K.lookup f_Ratio___init__ = some ⟨oc_Ratio___init__, od_Ratio___init__, .func (unop% fd Ratio___init__), sl_Ratio___init__⟩)
    (c_Ratio___init__ : PySem.W.codeIn K cd_Ratio___init__ "Ratio.__init__" = true)
    (k_Ratio___init__ : PySem.W.keepIn K (.ref f_Ratio___init__) = true)
    (t_Ratio___init__ : K.lookup dt_Ratio___init__ = some ⟨to_Ratio___init__, td_Ratio___init__, .seq tv_Ratio___init__ tn_Ratio___init__, ts_Ratio___init__⟩)
    (u_Ratio___init__ : Vals [.int 1] tv_Ratio___init__.toList)
    (a_as_ratio : PySem.W.nsIn K mainGlobals "as_ratio" = some (some (.ref f_as_ratio)))
    (E_as_ratio : ∃ d, Fun K "as_ratio" "as_ratio" st_as_ratio f_as_ratio d)
    (a_is_fraction : PySem.W.nsIn K mainGlobals "is_fraction" = some (some (.ref f_is_fraction)))
    (E_is_fraction : ∃ d, Fun K "is_fraction" "is_fraction" st_is_fraction f_is_fraction d)
    (a_Ratio___eq__ : PySem.W.findIn K (.ref C_Ratio) "__eq__" = some (some (.ref f_Ratio___eq__)))
    (i_Ratio___eq__ : PySem.W.isFn K (.ref f_Ratio___eq__) = true)
    (E_Ratio___eq__ : ∃ d, Fun K "__eq__" "Ratio.__eq__" st_Ratio___eq__ f_Ratio___eq__ d)
    (a_Ratio___str__ : PySem.W.findIn K (.ref C_Ratio) "__str__" = some (some (.ref f_Ratio___str__)))
    (i_Ratio___str__ : PySem.W.isFn K (.ref f_Ratio___str__) = true)
    (E_Ratio___str__ : ∃ d, Fun K "__str__" "Ratio.__str__" st_Ratio___str__ f_Ratio___str__ d)
    (a_is_written : PySem.W.nsIn K mainGlobals "is_written" = some (some (.ref f_is_written)))
    (E_is_written : ∃ d, Fun K "is_written" "is_written" st_is_written f_is_written d)
    (a_ratio_in : PySem.W.nsIn K mainGlobals "ratio_in" = some (some (.ref f_ratio_in)))
    (E_ratio_in : ∃ d, Fun K "ratio_in" "ratio_in" st_ratio_in f_ratio_in d)
    (s0_Ratio_read : PySem.W.findIn K (.ref C_Ratio) "read" = some (some (.ref sp_Ratio_read)))
    (s1_Ratio_read : PySem.W.recIn K sp_Ratio_read "staticmethod" = some (.ref f_Ratio_read :: sr_Ratio_read))
    (s2_Ratio_read : PySem.W.typeIn K (.ref C_Ratio) = some mc_Ratio_read)
    (s3_Ratio_read : PySem.W.readsIn K C_Ratio mc_Ratio_read = true)
    (s4_Ratio_read : PySem.W.findCls K (.ref C_Ratio) mc_Ratio_read "read" = some (.get (.builtin "staticmethod.__get__") (.ref sp_Ratio_read) .none (.ref C_Ratio)))
    (s5_Ratio_read : PySem.W.specialIn K (.ref C_Ratio) "__getattribute__" = some (some (.builtin "type.__getattribute__")))
    (E_Ratio_read : ∃ d, Fun K "read" "Ratio.read" st_Ratio_read f_Ratio_read d)
    (a__law_draw : PySem.W.nsIn K mainGlobals "_law_draw" = some (some (.ref f__law_draw)))
    (E__law_draw : ∃ d, Fun K "_law_draw" "_law_draw" st__law_draw f__law_draw d)
    (a__law_lowest : PySem.W.nsIn K mainGlobals "_law_lowest" = some (some (.ref f__law_lowest)))
    (E__law_lowest : ∃ d, Fun K "_law_lowest" "_law_lowest" st__law_lowest f__law_lowest d)
    (a__law_one : PySem.W.nsIn K mainGlobals "_law_one" = some (some (.ref f__law_one)))
    (E__law_one : ∃ d, Fun K "_law_one" "_law_one" st__law_one f__law_one d)
    (a__law_written : PySem.W.nsIn K mainGlobals "_law_written" = some (some (.ref f__law_written)))
    (E__law_written : ∃ d, Fun K "_law_written" "_law_written" st__law_written f__law_written d)
    (a__law_read : PySem.W.nsIn K mainGlobals "_law_read" = some (some (.ref f__law_read)))
    (E__law_read : ∃ d, Fun K "_law_read" "_law_read" st__law_read f__law_read d)
    (a__law_sort : PySem.W.nsIn K mainGlobals "_law_sort" = some (some (.ref f__law_sort)))
    (E__law_sort : ∃ d, Fun K "_law_sort" "_law_sort" st__law_sort f__law_sort d)
    (a__law_right : PySem.W.nsIn K mainGlobals "_law_right" = some (some (.ref f__law_right)))
    (l__law_right : K.lookup f__law_right = some ⟨oc__law_right, od__law_right, .func (unop% fd _law_right), sl__law_right⟩)
    (c__law_right : PySem.W.codeIn K cd__law_right "_law_right" = true)
    (k__law_right : PySem.W.keepIn K (.ref f__law_right) = true)
    (a_law : PySem.W.nsIn K mainGlobals "law" = some (some (.ref f_law)))
    (l_law : K.lookup f_law = some ⟨oc_law, od_law, .func (unop% fd law), sl_law⟩)
    (c_law : PySem.W.codeIn K cd_law "law" = true)
    (k_law : PySem.W.keepIn K (.ref f_law) = true)
    (aC_ShapeError : PySem.W.nsIn K mainGlobals "ShapeError" = some (some (.ref C_ShapeError)))
    (aC_InvalidText : PySem.W.nsIn K mainGlobals "InvalidText" = some (some (.ref C_InvalidText)))
    (aC_QuestionError : PySem.W.nsIn K mainGlobals "QuestionError" = some (some (.ref C_QuestionError)))
    (aC_SizeError : PySem.W.nsIn K mainGlobals "SizeError" = some (some (.ref C_SizeError)))
    (xI_InvalidText : PySem.W.excInitIn K C_InvalidText [.type "ValueError", .type "Exception", .type "BaseException", .type "object"] "ValueError.__new__" = true)
    (xv_InvalidText : PySem.W.excOver K C_InvalidText [.type "ValueError", .type "Exception", .type "BaseException", .type "object"] = true)
    (xs_InvalidText : PySem.W.findIn K (.ref C_InvalidText) "__setattr__" = some (some (.builtin "object.__setattr__")))
    (xh_InvalidText : PySem.W.hasDictIn K C_InvalidText = true)
    (xno_InvalidText : PySem.W.findIn K (.ref C_InvalidText) "value" = some none)
    (xin_InvalidText : PySem.W.findIn K (.ref C_InvalidText) "__init__" = some (some (.ref xi_InvalidText)))
    (xfn_InvalidText : PySem.W.typeIn K (.ref xi_InvalidText) = some (.type "function"))
    (xk_InvalidText : PySem.W.keepIn K (.ref C_InvalidText) = true)
    (xb_InvalidText : PySem.W.subIn K (.ref C_InvalidText) (.type "BaseException") = some true)
    (xt_InvalidText : PySem.W.typeIn K (.ref C_InvalidText) = some (.type "type"))
    (xl_InvalidText : K.lookup xi_InvalidText = some ⟨xo_InvalidText, xd_InvalidText, .func (PySem.W.fnOf "__init__" xq_InvalidText (SL.xA "value" xp1_InvalidText xp2_InvalidText) (SL.xB "value" xp3_InvalidText xp4_InvalidText xp5_InvalidText xp6_InvalidText) (SL.xS "value") .none .none xdc_InvalidText xpm_InvalidText xn_InvalidText xcd_InvalidText xct_InvalidText), xsl_InvalidText⟩)
    (xc_InvalidText : PySem.W.codeIn K xcd_InvalidText xq_InvalidText = true)
    (xg_InvalidText : PySem.W.findIn K (.ref C_InvalidText) "__getattribute__" = some (some (.builtin "BaseException.__getattribute__")))
    (xgg_InvalidText : PySem.W.findIn K (.ref C_InvalidText) "__getattr__" = some none)
    (xca_InvalidText : PySem.W.findIn K (.ref C_InvalidText) "__class__" = some (some (.builtin "object.__class__")))
    (xmo_InvalidText : PySem.W.mroIn K C_InvalidText (.type "object") = some true)
    (xe_InvalidText : PySem.W.exmAny K (.ref C_InvalidText) [.ref C_ShapeError, .ref C_QuestionError, .ref C_SizeError] = some true)
    (kx_InvalidText_ShapeError : PySem.W.kitOne K (.ref C_InvalidText) (.ref C_ShapeError) = some true)
    (kx_InvalidText_InvalidText : PySem.W.kitOne K (.ref C_InvalidText) (.ref C_InvalidText) = some true)
    (kx_InvalidText_QuestionError : PySem.W.kitOne K (.ref C_InvalidText) (.ref C_QuestionError) = some false)
    (kx_InvalidText_SizeError : PySem.W.kitOne K (.ref C_InvalidText) (.ref C_SizeError) = some false)
    (kx_InvalidText_ArithmeticError : PySem.W.kitOne K (.ref C_InvalidText) (.type "ArithmeticError") = some false)
    (kx_InvalidText_LookupError : PySem.W.kitOne K (.ref C_InvalidText) (.type "LookupError") = some false)
    (kx_InvalidText_ValueError : PySem.W.kitOne K (.ref C_InvalidText) (.type "ValueError") = some true)
    (cc__law_right : cd__law_right = .ref co__law_right)
    (lc__law_right : K.lookup co__law_right = some ⟨ce__law_right, cdd__law_right, .fields cv__law_right, csl__law_right⟩)
    (cp__law_right : cv__law_right[11]? = some (.ref P__law_right))
    (np__law_right : K.lookup P__law_right = none)
    (rc__law_right : ((PyProof.Rows.recsOf q).any fun e => e.name == ("_law_right" : Str)) = true)
    (z_ArithmeticError : PySem.W.nsIn K mainGlobals "ArithmeticError" = some none)
    (z_LookupError : PySem.W.nsIn K mainGlobals "LookupError" = some none)
    (z_ValueError : PySem.W.nsIn K mainGlobals "ValueError" = some none)
    (z_abs : PySem.W.nsIn K mainGlobals "abs" = some none)
    (z_all : PySem.W.nsIn K mainGlobals "all" = some none)
    (z_bool : PySem.W.nsIn K mainGlobals "bool" = some none)
    (z_int : PySem.W.nsIn K mainGlobals "int" = some none)
    (z_isinstance : PySem.W.nsIn K mainGlobals "isinstance" = some none)
    (z_len : PySem.W.nsIn K mainGlobals "len" = some none)
    (z_max : PySem.W.nsIn K mainGlobals "max" = some none)
    (z_min : PySem.W.nsIn K mainGlobals "min" = some none)
    (z_range : PySem.W.nsIn K mainGlobals "range" = some none)
    (z_repr : PySem.W.nsIn K mainGlobals "repr" = some none)
    (z_str : PySem.W.nsIn K mainGlobals "str" = some none)
    (pg_Ratio : PySem.W.plainGet K C_Ratio Str.empty = true)
    (hd_Ratio : PySem.W.hasDictIn K C_Ratio = true)
    (po_Ratio : PySem.W.plainOver K C_Ratio = true)
    (sa_Ratio : PySem.W.findIn K (.ref C_Ratio) "__setattr__" = some (some (.builtin "object.__setattr__")))
    (mk_Ratio : PySem.W.makesIn K C_Ratio = true)
    (kc_Ratio : PySem.W.keepIn K (.ref C_Ratio) = true)
    (sf_Ratio : PySem.W.selfFirst K C_Ratio = true)
    (si_Ratio : PySem.W.subIn K (.type "int") (.ref C_Ratio) = some false)
    (sj_Ratio : PySem.W.subIn K (.ref C_Ratio) (.type "int") = some false)
    (ha_Ratio : PySem.W.findIn K (.ref C_Ratio) "__class__" = some (some (.builtin "object.__class__")))
    (hm_Ratio : PySem.W.mroIn K C_Ratio (.type "object") = some true)
    (kb_Ratio_int : PySem.W.kitOne K (.ref C_Ratio) (.type "int") = some false)
    (kb_Ratio_bool : PySem.W.kitOne K (.ref C_Ratio) (.type "bool") = some false)
    (kb_Ratio_str : PySem.W.kitOne K (.ref C_Ratio) (.type "str") = some false)
    (kb_Ratio_tuple : PySem.W.kitOne K (.ref C_Ratio) (.type "tuple") = some false)
    (kb_Ratio_list : PySem.W.kitOne K (.ref C_Ratio) (.type "list") = some false)
    (kb_Ratio_dict : PySem.W.kitOne K (.ref C_Ratio) (.type "dict") = some false)
    (kt_Ratio_NoneType : PySem.W.kitOne K (.type "NoneType") (.ref C_Ratio) = some false)
    (nf_Ratio_NoneType : PySem.W.notFirst K C_Ratio (.type "NoneType") = true)
    (kt_Ratio_bool : PySem.W.kitOne K (.type "bool") (.ref C_Ratio) = some false)
    (nf_Ratio_bool : PySem.W.notFirst K C_Ratio (.type "bool") = true)
    (kt_Ratio_int : PySem.W.kitOne K (.type "int") (.ref C_Ratio) = some false)
    (nf_Ratio_int : PySem.W.notFirst K C_Ratio (.type "int") = true)
    (kt_Ratio_str : PySem.W.kitOne K (.type "str") (.ref C_Ratio) = some false)
    (nf_Ratio_str : PySem.W.notFirst K C_Ratio (.type "str") = true)
    (kt_Ratio_list : PySem.W.kitOne K (.type "list") (.ref C_Ratio) = some false)
    (nf_Ratio_list : PySem.W.notFirst K C_Ratio (.type "list") = true)
    (kt_Ratio_tuple : PySem.W.kitOne K (.type "tuple") (.ref C_Ratio) = some false)
    (nf_Ratio_tuple : PySem.W.notFirst K C_Ratio (.type "tuple") = true)
    (kt_Ratio_dict : PySem.W.kitOne K (.type "dict") (.ref C_Ratio) = some false)
    (nf_Ratio_dict : PySem.W.notFirst K C_Ratio (.type "dict") = true)
    (nn_Ratio_Ratio : PySem.W.notFirst K C_Ratio (.ref C_Ratio) = true)
    (hn : PySem.W.specialIn K (.builtin "object.__class__") "__get__" = some (some (.builtin "getset_descriptor.__get__")))
    (ht : PySem.W.takesIn K (.builtin "object.__class__") = some true)
    (na_Ratio_bottom : PySem.W.findIn K (.ref C_Ratio) "bottom" = some none)
    (na_Ratio_top : PySem.W.findIn K (.ref C_Ratio) "top" = some none)
    (ne_Ratio : PySem.W.findIn K (.ref C_Ratio) "__ne__" = some (some (.builtin "object.__ne__")))
    (ob_Ratio : PySem.W.subIn K (.ref C_Ratio) (.type "object") = some true) :
    SL.LawAtT l w K (L2.CX l.prog w) 14 63 "_law_cells" mg fa h := by
  letI : Tb := { T := [(P__law_right, (PyProof.Rows.envOfC "_law_right" (defScope st__law_right) 0 0 .none).qual ++ "<lambda>")] }
  have e := hfa.symm.trans (PySem.W.mg_of X G a_law)
  cases e
  obtain ⟨d__law_told, F__law_told⟩ := E__law_told
  have b__law_told := F__law_told.binds (ps := ["_law_act"]) fun _ _ _ _ _ _ us hl => match us, hl with | [_], _ => rfl
  obtain ⟨d__law_bag, F__law_bag⟩ := E__law_bag
  have b__law_bag := F__law_bag.binds (ps := ["_law_cells", "_law_k"]) fun _ _ _ _ _ _ us hl => match us, hl with | [_, _], _ => rfl
  obtain ⟨d_is_integer, F_is_integer⟩ := E_is_integer
  have b_is_integer := F_is_integer.binds (ps := ["value"]) fun _ _ _ _ _ _ us hl => match us, hl with | [_], _ => rfl
  obtain ⟨d_shared_factor, F_shared_factor⟩ := E_shared_factor
  have b_shared_factor := F_shared_factor.binds (ps := ["one", "two"]) fun _ _ _ _ _ _ us hl => match us, hl with | [_, _], _ => rfl
  have F_Ratio___init__ : FunD K "__init__" "Ratio.__init__" (defArgs st_Ratio___init__) (defBody st_Ratio___init__) (defScope st_Ratio___init__) [.int 1] [] f_Ratio___init__ (unop% fd Ratio___init__) := ⟨⟨oc_Ratio___init__, od_Ratio___init__, _, kV_Ratio___init__, dc_Ratio___init__, pm_Ratio___init__, an_Ratio___init__, cd_Ratio___init__, ct_Ratio___init__, sl_Ratio___init__, rfl, l_Ratio___init__, c_Ratio___init__, .inr ⟨by simp, dt_Ratio___init__, _, tv_Ratio___init__.toList, tn_Ratio___init__, rfl, t_Ratio___init__, rfl, u_Ratio___init__⟩, .inl rfl⟩, k_Ratio___init__⟩
  have b_Ratio___init__ : Binds K (unop% fd Ratio___init__) ["self", "top", "bottom"] [] := FunD_all F_Ratio___init__ (by simp) fun T kV doc pm an cdv ct us its l1 l2 => match us, its, l1, l2 with | [_, _, _], [_], _, _ => ⟨_, rfl, rfl⟩
  obtain ⟨d_as_ratio, F_as_ratio⟩ := E_as_ratio
  have b_as_ratio := F_as_ratio.binds (ps := ["value"]) fun _ _ _ _ _ _ us hl => match us, hl with | [_], _ => rfl
  obtain ⟨d_is_fraction, F_is_fraction⟩ := E_is_fraction
  have b_is_fraction := F_is_fraction.binds (ps := ["value"]) fun _ _ _ _ _ _ us hl => match us, hl with | [_], _ => rfl
  obtain ⟨d_Ratio___eq__, F_Ratio___eq__⟩ := E_Ratio___eq__
  have b_Ratio___eq__ := F_Ratio___eq__.binds (ps := ["self", "other"]) fun _ _ _ _ _ _ us hl => match us, hl with | [_, _], _ => rfl
  obtain ⟨d_Ratio___str__, F_Ratio___str__⟩ := E_Ratio___str__
  have b_Ratio___str__ := F_Ratio___str__.binds (ps := ["self"]) fun _ _ _ _ _ _ us hl => match us, hl with | [_], _ => rfl
  obtain ⟨d_is_written, F_is_written⟩ := E_is_written
  have b_is_written := F_is_written.binds (ps := ["text"]) fun _ _ _ _ _ _ us hl => match us, hl with | [_], _ => rfl
  obtain ⟨d_ratio_in, F_ratio_in⟩ := E_ratio_in
  have b_ratio_in := F_ratio_in.binds (ps := ["text"]) fun _ _ _ _ _ _ us hl => match us, hl with | [_], _ => rfl
  obtain ⟨d_Ratio_read, F_Ratio_read⟩ := E_Ratio_read
  have b_Ratio_read := F_Ratio_read.binds (ps := ["text"]) fun _ _ _ _ _ _ us hl => match us, hl with | [_], _ => rfl
  obtain ⟨d__law_draw, F__law_draw⟩ := E__law_draw
  have b__law_draw := F__law_draw.binds (ps := ["_law_bag_here", "_law_wide"]) fun _ _ _ _ _ _ us hl => match us, hl with | [_, _], _ => rfl
  obtain ⟨d__law_lowest, F__law_lowest⟩ := E__law_lowest
  have b__law_lowest := F__law_lowest.binds (ps := ["_law_upper", "_law_lower"]) fun _ _ _ _ _ _ us hl => match us, hl with | [_, _], _ => rfl
  obtain ⟨d__law_one, F__law_one⟩ := E__law_one
  have b__law_one := F__law_one.binds (ps := ["_law_bag_here", "_law_some"]) fun _ _ _ _ _ _ us hl => match us, hl with | [_, _], _ => rfl
  obtain ⟨d__law_written, F__law_written⟩ := E__law_written
  have b__law_written := F__law_written.binds (ps := ["_law_pair"]) fun _ _ _ _ _ _ us hl => match us, hl with | [_], _ => rfl
  obtain ⟨d__law_read, F__law_read⟩ := E__law_read
  have b__law_read := F__law_read.binds (ps := ["_law_line"]) fun _ _ _ _ _ _ us hl => match us, hl with | [_], _ => rfl
  obtain ⟨d__law_sort, F__law_sort⟩ := E__law_sort
  have b__law_sort := F__law_sort.binds (ps := ["_law_e"]) fun _ _ _ _ _ _ us hl => match us, hl with | [_], _ => rfl
  have F__law_right := fun_mk (st := st__law_right) l__law_right c__law_right k__law_right
  have b__law_right := F__law_right.binds (ps := ["_law_bag_here"]) fun _ _ _ _ _ _ us hl => match us, hl with | [_], _ => rfl
  have F_law := fun_mk (st := st_law) l_law c_law k_law
  have b_law := F_law.binds (ps := ["_law_cells"]) fun _ _ _ _ _ _ us hl => match us, hl with | [_], _ => rfl
  have kb_Ratio_read_0_text : ∃ g, KBn K d_Ratio_read ["text"] 0 ["text"] g (prm [0]) := Fun_kb (ps := ["text"]) F_Ratio_read 0 ["text"] (fun us ws => prm [0] us ws) (fun r1 r3 => vals_prm _ r1 r3) fun kV doc pm an cdv ct us ws l1 l2 => match us, ws, l1, l2 with | [], [_], _, _ => rfl
  have bd_Ratio___init___1 : ∃ ds, Vals [.int 1] ds ∧ Binds K (unop% fd Ratio___init__) ["self", "top", "bottom"] ds := FunD.binds1 (ps := ["self", "top", "bottom"]) F_Ratio___init__ 2 0 (by simp) (by rfl) fun T kV doc pm an cdv ct us its l1 l2 => match us, its, l1, l2 with | [_, _], [_], _, _ => ⟨_, rfl, rfl⟩
  have ti__law_right := tab _ _ _ rc__law_right (SL.tabIn_of a__law_right l__law_right cc__law_right lc__law_right cp__law_right)
  let A : CT := { ad := fun c => [C_Ratio, C_Ratio, C_Ratio, C_Ratio, C_Ratio, C_Ratio, C_Ratio, C_Ratio, C_Ratio, C_Ratio, C_Ratio, C_Ratio, C_Ratio, C_Ratio, C_Ratio, C_Ratio, C_Ratio, C_Ratio, C_Ratio, C_Ratio, C_ShapeError, C_Ratio, C_InvalidText, C_Ratio, C_Ratio, C_Ratio, C_Ratio, C_Ratio, C_Ratio, C_Ratio, C_Ratio, C_Ratio, C_Ratio, C_Ratio, C_Ratio, C_Ratio, C_Ratio, C_Ratio, C_Ratio, C_Ratio, C_Ratio, C_Ratio, C_Ratio, C_Ratio, C_QuestionError, C_Ratio, C_Ratio, C_Ratio, C_Ratio, C_Ratio, C_Ratio, C_Ratio, C_Ratio, C_Ratio, C_Ratio, C_Ratio, C_SizeError].getD c C_Ratio, nms := nmsOf, cs := [0], xs := [22] }
  let x : Fx := { f__law_told := f__law_told, d__law_told := d__law_told, f__law_bag := f__law_bag, d__law_bag := d__law_bag, f_is_integer := f_is_integer, d_is_integer := d_is_integer, f_shared_factor := f_shared_factor, d_shared_factor := d_shared_factor, f_Ratio___init__ := f_Ratio___init__, d_Ratio___init__ := (unop% fd Ratio___init__), f_as_ratio := f_as_ratio, d_as_ratio := d_as_ratio, f_is_fraction := f_is_fraction, d_is_fraction := d_is_fraction, f_Ratio___eq__ := f_Ratio___eq__, d_Ratio___eq__ := d_Ratio___eq__, f_Ratio___str__ := f_Ratio___str__, d_Ratio___str__ := d_Ratio___str__, f_is_written := f_is_written, d_is_written := d_is_written, f_ratio_in := f_ratio_in, d_ratio_in := d_ratio_in, f_Ratio_read := f_Ratio_read, d_Ratio_read := d_Ratio_read, f__law_draw := f__law_draw, d__law_draw := d__law_draw, f__law_lowest := f__law_lowest, d__law_lowest := d__law_lowest, f__law_one := f__law_one, d__law_one := d__law_one, f__law_written := f__law_written, d__law_written := d__law_written, f__law_read := f__law_read, d__law_read := d__law_read, f__law_sort := f__law_sort, d__law_sort := d__law_sort, f__law_right := f__law_right, d__law_right := (unop% fd _law_right), f_law := fa, d_law := (unop% fd law), xi_InvalidText := xi_InvalidText, c__law_right := co__law_right, p__law_right := P__law_right }
  have cf_Ratio : CF K C_Ratio := ⟨⟨pg_Ratio, hd_Ratio, po_Ratio, sa_Ratio⟩, ha_Ratio, hn, ht, hm_Ratio,
    fun T hT => by simp only [List.mem_cons, List.not_mem_nil, or_false] at hT; rcases hT with rfl | rfl | rfl | rfl | rfl | rfl <;> assumption,
    fun T hT => by simp only [List.mem_cons, List.not_mem_nil, or_false] at hT; rcases hT with rfl | rfl | rfl | rfl | rfl | rfl | rfl <;> assumption,
    fun T hT => by simp only [List.mem_cons, List.not_mem_nil, or_false] at hT; rcases hT with rfl | rfl | rfl | rfl | rfl | rfl | rfl <;> assumption⟩
  have kd : KD K A := by
    refine ⟨fun c hc => ?_, fun c hc c' hc' => ?_, fun c hc c' hc' => ?_⟩
    · simp only [A, List.mem_cons, List.not_mem_nil, or_false] at hc; rcases hc with rfl
      · exact cf_Ratio
    · simp only [A, List.mem_cons, List.not_mem_nil, or_false] at hc hc'; rcases hc with rfl <;> rcases hc' with rfl
      · show PySem.W.kitOne K (.ref C_Ratio) (.ref C_Ratio) = some true; unfold PySem.W.kitOne; simp
    · simp only [A, List.mem_cons, List.not_mem_nil, or_false] at hc hc'; rcases hc with rfl <;> rcases hc' with rfl
      · exact nn_Ratio_Ratio
  have xa : ∀ c ∈ A.xs, SL.XA K (A.ad c) := by
    intro c hc; simp only [A, List.mem_cons, List.not_mem_nil, or_false] at hc; rcases hc with rfl
    · exact ⟨xh_InvalidText, xg_InvalidText, xgg_InvalidText, xb_InvalidText, xca_InvalidText, hn, ht, xmo_InvalidText⟩
  have exm : ∀ n ∈ A.xs, PySem.W.exmAny K (.ref (A.ad n)) [.ref (A.ad 20), .ref (A.ad 44), .ref (A.ad 56)] = some true := by
    intro c hc; simp only [A, List.mem_cons, List.not_mem_nil, or_false] at hc; rcases hc with rfl
    · exact xe_InvalidText
  have hk : ∀ c ∈ A.xs, ∀ (a : Addr) y b, isxF c y = some b → ∃ cv, PySem.W.kitOne K (.ref (A.ad c)) cv = some b ∧ ∀ (G : Hp) (v : V) (u : Value), Rep K (A.err a xlL) G v y → RelV v u → u = cv := by
    intro c hc a y b hy; simp only [A, List.mem_cons, List.not_mem_nil, or_false] at hc; rcases hc with rfl
    · rcases isx_InvalidText hy with ⟨rfl, rfl⟩ | ⟨rfl, rfl⟩ | ⟨rfl, rfl⟩ | ⟨rfl, rfl⟩ | ⟨rfl, rfl⟩ | ⟨rfl, rfl⟩ | ⟨rfl, rfl⟩
      · exact ⟨_, kx_InvalidText_ShapeError, fun G v u r e => errCls rfl r e⟩
      · exact ⟨_, kx_InvalidText_InvalidText, fun G v u r e => errCls rfl r e⟩
      · exact ⟨_, kx_InvalidText_QuestionError, fun G v u r e => errCls rfl r e⟩
      · exact ⟨_, kx_InvalidText_SizeError, fun G v u r e => errCls rfl r e⟩
      · exact ⟨_, kx_InvalidText_ArithmeticError, fun G v u r e => by cases r; cases e; rfl⟩
      · exact ⟨_, kx_InvalidText_LookupError, fun G v u r e => by cases r; cases e; rfl⟩
      · exact ⟨_, kx_InvalidText_ValueError, fun G v u r e => by cases r; cases e; rfl⟩
  have xn_value : ∀ c, gx_value c = true → A.nms c = [("value" : Str)] := by
    intro c hc; have hc := of_decide_eq_true hc; simp only [List.mem_cons, List.not_mem_nil, or_false] at hc; rcases hc with rfl <;> rfl
  have xf_value : ∀ c ∈ A.xs, PySem.W.findIn K (.ref (A.ad c)) "value" = some none := by
    intro c hc; simp only [A, List.mem_cons, List.not_mem_nil, or_false] at hc; rcases hc with rfl
    · exact xno_InvalidText
  refine ⟨(unop% fd law), [(co__law_right, P__law_right)], sp_law K, (by intro p hp; simp only [List.mem_cons, List.not_mem_nil, or_false] at hp; rcases hp with rfl; exact ti__law_right.2), (by intro p hp; simp only [List.mem_cons, List.not_mem_nil, or_false] at hp; rcases hp with rfl; exact np__law_right), (by intro p hp; simp only [List.mem_cons, List.not_mem_nil, or_false] at hp; rcases hp with rfl; exact ti__law_right.1), fun s v => .of_eq rfl, fun H a ns hl hH hS => ⟨a, ns, rfl, hS, hl, SL.tabs_nil (by intro p hp; have hp : p ∈ [(P__law_right, (PyProof.Rows.envOfC "_law_right" (defScope st__law_right) 0 0 .none).qual ++ "<lambda>")] := hp; simp only [List.mem_cons, List.not_mem_nil, or_false] at hp; rcases hp with rfl; exact hH (co__law_right, P__law_right) (by simp)), fun _ => rfl⟩, fun base _ _ tbs => ?_⟩
  have T : Txt K mg base A x := { b0 := fun _ => rfl, kd := kd, in_Ratio := by simp [A], nl_Ratio := (by decide : (nmsOf 0).length ≤ 900), F__law_told := F__law_told, b__law_told := b__law_told, F__law_bag := F__law_bag, b__law_bag := b__law_bag, F_is_integer := F_is_integer, b_is_integer := b_is_integer, F_shared_factor := F_shared_factor, b_shared_factor := b_shared_factor, F_Ratio___init__ := F_Ratio___init__, b_Ratio___init__ := b_Ratio___init__, F_as_ratio := F_as_ratio, b_as_ratio := b_as_ratio, F_is_fraction := F_is_fraction, b_is_fraction := b_is_fraction, F_Ratio___eq__ := F_Ratio___eq__, b_Ratio___eq__ := b_Ratio___eq__, F_Ratio___str__ := F_Ratio___str__, b_Ratio___str__ := b_Ratio___str__, F_is_written := F_is_written, b_is_written := b_is_written, F_ratio_in := F_ratio_in, b_ratio_in := b_ratio_in, F_Ratio_read := F_Ratio_read, b_Ratio_read := b_Ratio_read, F__law_draw := F__law_draw, b__law_draw := b__law_draw, F__law_lowest := F__law_lowest, b__law_lowest := b__law_lowest, F__law_one := F__law_one, b__law_one := b__law_one, F__law_written := F__law_written, b__law_written := b__law_written, F__law_read := F__law_read, b__law_read := b__law_read, F__law_sort := F__law_sort, b__law_sort := b__law_sort, F__law_right := F__law_right, b__law_right := b__law_right, F_law := F_law, b_law := b_law, g__law_bag := PySem.W.mg_of X G a__law_bag, g__law_draw := PySem.W.mg_of X G a__law_draw, g__law_lowest := PySem.W.mg_of X G a__law_lowest, g__law_one := PySem.W.mg_of X G a__law_one, g__law_read := PySem.W.mg_of X G a__law_read, g__law_right := PySem.W.mg_of X G a__law_right, g__law_sort := PySem.W.mg_of X G a__law_sort, g__law_told := PySem.W.mg_of X G a__law_told, g__law_written := PySem.W.mg_of X G a__law_written, g_as_ratio := PySem.W.mg_of X G a_as_ratio, g_is_fraction := PySem.W.mg_of X G a_is_fraction, g_is_integer := PySem.W.mg_of X G a_is_integer, g_is_written := PySem.W.mg_of X G a_is_written, g_ratio_in := PySem.W.mg_of X G a_ratio_in, g_shared_factor := PySem.W.mg_of X G a_shared_factor, n_ArithmeticError := PySem.W.mg_none_of X G z_ArithmeticError, n_LookupError := PySem.W.mg_none_of X G z_LookupError, n_ValueError := PySem.W.mg_none_of X G z_ValueError, n_abs := PySem.W.mg_none_of X G z_abs, n_all := PySem.W.mg_none_of X G z_all, n_bool := PySem.W.mg_none_of X G z_bool, n_int := PySem.W.mg_none_of X G z_int, n_isinstance := PySem.W.mg_none_of X G z_isinstance, n_len := PySem.W.mg_none_of X G z_len, n_max := PySem.W.mg_none_of X G z_max, n_min := PySem.W.mg_none_of X G z_min, n_range := PySem.W.mg_none_of X G z_range, n_repr := PySem.W.mg_none_of X G z_repr, n_str := PySem.W.mg_none_of X G z_str, g_Ratio := PySem.W.mg_of X G aC_Ratio, cl_Ratio := cf_Ratio.cl, sf_Ratio := sf_Ratio, int_Ratio := si_Ratio, sub_Ratio := sj_Ratio, mk_Ratio := ⟨mk_Ratio, a_Ratio___init__, i_Ratio___init__, kc_Ratio⟩, fl_Ratio_bottom := ⟨na_Ratio_bottom, rfl, nms_nd 0⟩, fl_Ratio_top := ⟨na_Ratio_top, rfl, nms_nd 0⟩, sm_Ratio_read := ⟨s5_Ratio_read, ⟨_, _, _, s3_Ratio_read, s4_Ratio_read, s1_Ratio_read⟩, F_Ratio_read.kp⟩, o_Ratio_eq := ⟨a_Ratio___eq__, i_Ratio___eq__⟩, ne_Ratio := ne_Ratio, ob_Ratio := ob_Ratio, o_Ratio_str := ⟨a_Ratio___str__, i_Ratio___str__⟩, kb_Ratio_read_0_text := kb_Ratio_read_0_text, bd_Ratio___init___1 := bd_Ratio___init___1, x99 := (by decide : (99 : Nat) ∉ ([22] : List Nat)), c99 := (by decide : (99 : Nat) ∉ ([0] : List Nat)), xa := xa, exm := exm, hk := hk, xn_value := xn_value, xf_value := xf_value, g_ShapeError := PySem.W.mg_of X G aC_ShapeError, g_InvalidText := PySem.W.mg_of X G aC_InvalidText, g_QuestionError := PySem.W.mg_of X G aC_QuestionError, g_SizeError := PySem.W.mg_of X G aC_SizeError, xin_InvalidText := by simp [A], xm_InvalidText := rfl, xc_InvalidText := ⟨⟨_, _, _, _, PySem.F.excBase_ValueError, PySem.F.store_ValueError, xI_InvalidText, xv_InvalidText⟩, xs_InvalidText, xh_InvalidText, xno_InvalidText, xin_InvalidText, xfn_InvalidText, xk_InvalidText, xb_InvalidText, xt_InvalidText, ⟨_, _, _, _, _, _, _, _, _, _, _, _, _, _, _, xl_InvalidText, xc_InvalidText⟩⟩, tB__law_right := tbs (co__law_right, P__law_right) (by simp), cd__law_right := cc__law_right, tm__law_right := (show (P__law_right, (PyProof.Rows.envOfC "_law_right" (defScope st__law_right) 0 0 .none).qual ++ "<lambda>") ∈ [(P__law_right, (PyProof.Rows.envOfC "_law_right" (defScope st__law_right) 0 0 .none).qual ++ "<lambda>")] by simp), tu__law_right := by intro p hp e; have hp : p ∈ [(P__law_right, (PyProof.Rows.envOfC "_law_right" (defScope st__law_right) 0 0 .none).qual ++ "<lambda>")] := hp; simp only [List.mem_cons, List.not_mem_nil, or_false] at hp; rcases hp with rfl; exact rfl }
  exact OL _ _ _ _ _ _ _ T
theorem walk {l : PySem.W.OpenLaw} {q : Program} {loose : List Str} {XP : (Str → Option Value) → Heap → Prop} {YP : World → Heap → Prop} {d : DefRec} {K : Params → PySem.W.Frag} (hn : l.most = some 63) (hdf : d.params.defaults = [])
    (hY : ∀ (w : World) (h : Heap), YP w h → (K w.params).In h)
    (F : ∀ (w : World) (mg : Str → Option Value) (fa : Addr) (h : Heap), (K w.params).In h → h.Ns mainGlobals mg → mg d.name = some (.ref fa) →
      (∀ (x : Str) (c P : Addr), ((PyProof.Rows.recsOf q).any fun e => e.name == x) = true → PySem.W.tabIn (K w.params) x = some (c, P) → PySem.W.CodeHd h c P ∧ h.get? P = some { cls := .none, data := .fields #[] }) → SL.LawAtT l w (K w.params) (L2.CX l.prog w) 14 63 "_law_cells" mg fa h) :
    PySem.W.WalkO q loose XP YP l.row.toRowW d [] (fun f vs => PySem.call f vs) :=
  SL.walk_ofT (n := 63) (k := 14) (x := "_law_cells") (CX := fun w => L2.CX l.prog w) hn (by decide) hdf ⟨⟨rfl, by decide, by decide⟩, rfl⟩ hY F fun _ _ _ _ _ h => by
    obtain ⟨_, _, _, _, _, _, _, _, _, _, _, _, z⟩ := h
    exact z
end DY

set_option Elab.async false
set_option linter.all false
set_option maxRecDepth 100000
set_option maxHeartbeats 4000000
namespace DY
/-! ### what a mirror answers, step by step -/
section
variable {α β : Type} {m : R α} {f : α → R β} {P Q : α → Prop}
end
section
variable {A B : Prop}
end
section
variable {ρ : Env} {P : D → Bool → Env → Prop} {Q : D → Bool → Prop} {a b c t e k z : Ev} {i : Nat} {d : D} {f g : D → D → R Rv} {ms ks pre post : List Ev} {F : Fn} {G : FnR}
local macro_rules | `(tactic| walk_at "w") => `(tactic| (simp only [eBin, eUn, eBor, eBorR, eBor1, eN, eIf, eAnd, eOr, eNot, eChain, eCallR, eCallT, eMeth, eMethK, eNK, eMut, eGet, eGetS, eSlice, sAsgT, sExpr, sRet, sRetV, sIf, sPut, sFld, val, evs, bind, R.bind, pure, isB, if_true, if_false, Bool.false_eq_true, *]))
end
/-! statements -/
section
variable {ρ : Env} {P : Out → Env → Prop} {a b : Sv} {t e v : Ev} {i j : Nat} {d : D} {w : Bool} {g : Tg} {it : Iv}

local macro_rules | `(tactic| walk_at "w") => `(tactic| (simp only [eBin, eUn, eBor, eBorR, eBor1, eN, eIf, eAnd, eOr, eNot, eChain, eCallR, eCallT, eMeth, eMethK, eNK, eMut, eGet, eGetS, eSlice, sAsgT, sExpr, sRet, sRetV, sIf, sPut, sFld, val, evs, bind, R.bind, pure, isB, if_true, if_false, Bool.false_eq_true, *]))
/-- what a name takes -/
def kp (d : D) : Bool → Slot
  | true => .ow d
  | false => .sh d
/-! defs -/
/-! walks -/
/-! comprehensions -/
/-! dicts -/
end
end DY

set_option Elab.async false
set_option linter.all false
set_option maxRecDepth 100000
set_option maxHeartbeats 4000000
namespace SL
open PySem L2 PySem.Spec PyProof.Rows

/-! ### Ratios -/
def RatAt (a : Cl) (H : Hp) (p : Addr) (n d : Int) : Prop := ∃ dx, H p = some (.ins a.C_Ratio dx [("top", .int n), ("bottom", .int d)])
theorem RatAt.up {a : Cl} {H H' : Hp} {p : Addr} {n d : Int} (e : L2.Same H H') (h : RatAt a H p n d) : RatAt a H' p n d := let ⟨dx, h⟩ := h; ⟨dx, e _ _ h⟩
section
variable {K : PySem.W.Frag} {a : Cl} {H : Hp} {Q : VK} {p : Addr} {n d : Int}
end

/-! ### the promises -/
def sgn (n : Int) : Int := if 0 < n then 1 else -1
/-! ### readings -/
abbrev nm_is_integer : List Str := ["value"]
abbrev nm_shared_factor : List Str := ["one", "two", "high", "low"]
abbrev nm_is_fraction : List Str := ["value"]
abbrev nm_as_ratio : List Str := ["value"]
abbrev nm_Ratio___init__ : List Str := ["self", "top", "bottom", "factor"]
abbrev nm_Ratio___eq__ : List Str := ["self", "other", "by"]
local macro_rules | `(tactic| walk_at "up") => `(tactic| first | assumption | exact upd_same | (apply SL.RatAt.up; assumption; walk_at "up") | (apply SL.Same.at; assumption; walk_at "up"))
local macro_rules | `(tactic| walk_at "s0") => `(tactic| first
  | with_reducible refine SL.go_var (by with_unfolding_all rfl) ?_
  | with_reducible refine SL.go_seq ?_
  | with_reducible refine SL.go_next ?_
  | with_reducible refine SL.go_asg ?_
  | with_reducible refine SL.go_gname ?_
  | with_reducible refine SL.go_ret ?_
  | with_reducible refine SL.go_drop ?_
  | with_reducible refine SL.go_ifs ?_
  | with_reducible refine SL.go_c ?_
  | with_reducible refine SL.go_op ?_
  | with_reducible refine SL.go_un ?_
  | with_reducible refine SL.go_I0 ?_
  | with_reducible refine SL.go_U ?_
  | with_reducible refine SL.go_test ?_
  | with_reducible refine SL.go_tb ?_
  | with_reducible refine SL.go_bl ?_
  | with_reducible refine SL.go_eqI ?_
  | with_reducible refine SL.go_neI ?_
  | with_reducible refine SL.go_eqB ?_
  | with_reducible refine SL.go_neB ?_
  | with_reducible refine SL.go_eqS ?_
  | with_reducible refine SL.go_neS ?_
  | with_reducible refine SL.go_and ?_
  | with_reducible refine SL.go_or ?_
  | with_reducible refine SL.go_not ?_
  | with_reducible refine SL.go_andV ?_
  | with_reducible refine SL.go_orV ?_
  | with_reducible refine SL.go_notV ?_
  | with_reducible refine SL.go_if ?_
  | with_reducible refine SL.go_T ?_
  | with_reducible refine SL.go_F ?_
  | with_reducible refine SL.go_nT ?_
  | with_reducible refine SL.go_nF ?_
  | with_reducible refine SL.go_nil ?_
  | with_reducible refine SL.go_cons ?_
  | with_reducible refine SL.go_call ?_
  | with_reducible refine SL.go_cb ?_
  | with_reducible refine SL.go_par ?_
  | with_reducible refine SL.go_pair ?_
  | with_reducible refine SL.go_tup ?_
  | with_reducible refine SL.go_lst ?_
  | with_reducible refine SL.go_fldC ?_
  | with_reducible refine SL.go_sfld ?_
  | with_reducible refine SL.go_sub ?_
  | with_reducible refine SL.go_sl ?_
  | with_reducible refine SL.go_noPart ?_
  | with_reducible refine SL.go_part ?_
  | with_reducible refine SL.go_partE ?_
  | with_reducible refine SL.go_abs ?_
  | with_reducible refine SL.go_max2 ?_
  | with_reducible refine SL.go_min2 ?_
  | with_reducible refine SL.go_int ?_
  | with_reducible refine SL.go_intB ?_
  | with_reducible refine SL.go_bm ?_
  | with_reducible refine SL.go_meth ?_
  | with_reducible refine SL.go_methN ?_
  | with_reducible refine SL.go_make ?_
  | with_reducible refine SL.go_makeK ?_
  | with_reducible refine SL.go_for ?_
  | with_reducible refine SL.go_iList ?_
  | with_reducible refine SL.go_iTup ?_
  | with_reducible refine SL.go_iRng1 ?_
  | with_reducible refine SL.go_iRng2 ?_
  | with_reducible refine SL.go_lc ?_
  | with_reducible refine SL.go_yes ?_
  | with_reducible refine SL.go_chain ?_
  | with_reducible refine SL.go_j ?_
  | with_reducible refine SL.go_js0 ?_
  | with_reducible refine SL.go_js ?_
  | with_reducible refine SL.go_fmt ?_
  | with_reducible refine SL.go_m1 ?_
  | with_reducible refine SL.go_ltS ?_
  | with_reducible refine SL.go_leS ?_
  | with_reducible refine SL.go_strS ?_
  | with_reducible refine SL.go_iStr ?_
  | with_reducible refine SL.go_iZip ?_
  | with_reducible refine SL.go_iKeys ?_
  | with_reducible refine SL.go_dget ?_
  | with_reducible refine SL.go_dc ?_)
local macro_rules | `(tactic| walk_at "go") => `(tactic| repeat walk_at "s0")
local macro_rules | `(tactic| walk_at "nw") => `(tactic| (refine ⟨SL.szL (by simp), fun p n => ?_⟩; generalize q : upd _ p _ = H'; have e := SL.Same.new' n q; have h := SL.at_new q; clear q))
local macro_rules | `(tactic| walk_at "nw0") => `(tactic| (intro p n; generalize q : upd _ p _ = H'; have e := SL.Same.new' n q; have h := SL.at_new q; clear q))
section
variable {K : PySem.W.Frag} {a : Cl} {vs : List V} {H : Hp} {Q : VK} {E : XK}
abbrev ends (Q : VK) : Ends := { nx := fun _ H' => Q .non H', rt := Q }

/-! ### Ratio(..) -/
end
end SL

set_option Elab.async false
set_option linter.all false
set_option maxRecDepth 100000
set_option maxHeartbeats 4000000
namespace SL
/-! ### reckoning with lowest terms and with any terms gives the same -/
section
variable {n1 d1 n2 d2 : Int}
theorem low_one (h1 : 0 < d1) : nm (nm n1 d1) (dn n1 d1) = nm n1 d1 ∧ dn (nm n1 d1) (dn n1 d1) = dn n1 d1 := low_self (dn_pos h1) (nm_dn_gcd (by omega))
variable {m : Int}
end
end SL

set_option Elab.async false
set_option linter.all false
set_option maxRecDepth 100000
set_option maxHeartbeats 4000000
namespace DY
/-! ### steps -/
theorem mulOk_s {i j : Int} (hi : i.natAbs < 2 ^ 400000) (hj : j.natAbs < 2 ^ 400000) : mulOk i j = true := by
  have key : ∀ n : Nat, n < 2 ^ 400000 → n.log2 < 400000 := fun n h => by
    by_cases z : n = 0
    · subst z; decide
    · exact (Nat.log2_lt z).mpr h
  unfold mulOk
  rw [decide_eq_true_eq]
  have := key _ hi
  have := key _ hj
  omega
theorem mulOk_b {i j : Int} (h1 : -2 ^ 200 ≤ i) (h2 : i ≤ 2 ^ 200) (h3 : -2 ^ 200 ≤ j) (h4 : j ≤ 2 ^ 200) : mulOk i j = true := by
  have e : (2 : Nat) ^ 201 ≤ 2 ^ 400000 := Nat.pow_le_pow_right (by decide) (by decide)
  exact mulOk_s (Nat.lt_of_lt_of_le (by omega) e) (Nat.lt_of_lt_of_le (by omega) e)
theorem divOk_b {j : Int} (h1 : 0 < j) (h2 : j ≤ 2 ^ 200) : divOk j = true := by
  unfold divOk
  rw [Bool.and_eq_true, decide_eq_true_eq, decide_eq_true_eq]
  refine ⟨by omega, ?_⟩
  have : j.natAbs.log2 < 201 := (Nat.log2_lt (by omega)).mpr (by omega)
  omega
theorem fm_lo (i : Int) {j : Int} (h : 0 < j) : 0 ≤ i.fmod j := Int.fmod_nonneg_of_pos i h
theorem fm_hi (i : Int) {j : Int} (h : 0 < j) : i.fmod j < j := Int.fmod_lt_of_pos i h
theorem at_ok {xs : List D} {i : Int} (h0 : 0 ≤ i) (h1 : i < xs.length) : ∃ d, xs[i.toNat]? = some d ∧ atI xs i = some d := by
  have hl : i.toNat < xs.length := by omega
  refine ⟨xs[i.toNat], List.getElem?_eq_getElem hl, ?_⟩
  unfold atI ixN
  rw [if_pos h0, if_pos h1]
  exact List.getElem?_eq_getElem hl
theorem cut_map {α β : Type} (f : α → β) (xs : List α) (lo hi : Option Int) : cut (xs.map f) lo hi = (cut xs lo hi).map f := by
  unfold cut
  rw [List.length_map, List.map_take, List.map_drop]
end DY

set_option Elab.async false
set_option linter.all false
set_option maxRecDepth 100000
set_option maxHeartbeats 4000000
namespace DY
/-! ### a mirror is run by rewriting: only what stands at the head -/
/-- a mark that keeps the rewriting out of a -/
inductive Tr {α : Type} (a : α) : Type where
  | mk
section
variable {α β γ : Type} {m m' : R α} {f : α → R β} {g : β → R γ} {a : α} {P : α → Prop} {d d' : D} {A B : R α}
def bnd (m : R α) (f : α → R β) (_ : Tr f := .mk) : R β := R.bind m f
def Wn (m : R α) (P : α → Prop) (_ : Tr P := .mk) : Prop := ∃ a, m = .ok a ∧ P a
theorem bnd_ok : bnd (.ok a) f = f a := rfl
theorem bnd_ex : bnd (.ex d) f = .ex d := rfl
theorem bnd_bnd : bnd (bnd m f) g = bnd m (fun x => bnd (f x) g) := by cases m <;> rfl
theorem bnd_fun {f' : α → R β} (h : ∀ x, f x = f' x) : bnd m f = bnd m f' := by rw [funext h]
theorem Wn_ok : Wn (.ok a) P = P a := propext ⟨fun ⟨b, e, h⟩ => by cases e; exact h, fun h => ⟨a, rfl, h⟩⟩
theorem Wn.eq (h : Wn m (· = a)) : m = .ok a := by obtain ⟨b, e, rfl⟩ := h; exact e
/-- a test -/
def cnd (d : D) (A B : R α) (_ : Tr A := .mk) (_ : Tr B := .mk) : R α := match d with
  | .bl true => A
  | .bl false => B
  | _ => .no
theorem cnd_t : cnd (.bl true) A B = A := rfl
theorem cnd_f : cnd (.bl false) A B = B := rfl
theorem cnd_n {b : Bool} : cnd (.bl (!b)) A B = cnd (.bl b) B A := by cases b <;> rfl
theorem cnd_p {p : Prop} [Decidable p] (h : p) : cnd (.bl (decide p)) A B = A := by rw [decide_eq_true h]; rfl
theorem cnd_q {p : Prop} [Decidable p] (h : ¬ p) : cnd (.bl (decide p)) A B = B := by rw [decide_eq_false h]; rfl
theorem isB_cnd {F : Bool → R α} : (isB d >>= F) = cnd d (F true) (F false) := by
  cases d with
  | bl b => cases b <;> rfl
  | _ => rfl
end
section
variable {α : Type} {P : α → Prop} {β : Type} {A B : R β} {k : β → R α}
theorem wp_d {p : Prop} [Decidable p] (h : p → Wn (bnd A k) P) (h' : ¬ p → Wn (bnd B k) P) : Wn (bnd (cnd (.bl (decide p)) A B) k) P := by
  by_cases q : p
  · rw [cnd_p q]; exact h q
  · rw [cnd_q q]; exact h' q
theorem wp_use {m : R β} {Q : β → Prop} (h : Wn m Q) (k' : ∀ x, Q x → Wn (k x) P) : Wn (bnd m k) P := by
  obtain ⟨a, rfl, h⟩ := h
  exact k' a h
end
/-! ### expressions -/
def varG : Option Slot → Nat → Env → R (Rv × Env)
  | some (.sh d), _, ρ => .ok ((d, false), ρ)
  | some (.ow d), i, ρ => .ok ((d, false), ρ.set i (.sh d))
  | _, _, _ => .no
def movG : Option Slot → Nat → Env → R (Rv × Env)
  | some (.sh d), _, ρ => .ok ((d, false), ρ)
  | some (.ow d), i, ρ => .ok ((d, true), ρ.set i .un)
  | _, _, _ => .no
def lookG : Option Slot → R D
  | some (.sh d) => .ok d
  | some (.ow d) => .ok d
  | _ => .no
def ownG : Option Slot → R D
  | some (.ow d) => .ok d
  | _ => .no
section
variable {o o' : Option Slot} {i : Nat} {ρ : Env} {d : D}
theorem varG_sh : varG (some (.sh d)) i ρ = .ok ((d, false), ρ) := rfl
theorem varG_ow : varG (some (.ow d)) i ρ = .ok ((d, false), ρ.set i (.sh d)) := rfl
theorem movG_sh : movG (some (.sh d)) i ρ = .ok ((d, false), ρ) := rfl
theorem lookG_sh : lookG (some (.sh d)) = .ok d := rfl
theorem lookG_ow : lookG (some (.ow d)) = .ok d := rfl
theorem ownG_ow : ownG (some (.ow d)) = .ok d := rfl
theorem get_0 {s : Slot} : (s :: ρ)[0]? = some s := rfl
theorem get_s {s : Slot} : (s :: ρ)[i + 1]? = ρ[i]? := List.getElem?_cons_succ
theorem set_0 {s t : Slot} : (s :: ρ).set 0 t = t :: ρ := rfl
theorem set_s {s t : Slot} : (s :: ρ).set (i + 1) t = s :: ρ.set i t := rfl
theorem ev_var : eVar i ρ = varG ρ[i]? i ρ := by unfold eVar; split <;> simp_all [varG]
theorem ev_mov0 : eMove i ρ = movG ρ[i]? i ρ := by unfold eMove; split <;> simp_all [movG]
theorem ev_look : look ρ i = lookG ρ[i]? := rfl
theorem ev_c : eC d ρ = .ok ((d, false), ρ) := rfl
end
section
variable {ρ : Env} {a b c t e k z : Ev} {i j n : Nat} {d : D} {f g : D → D → R Rv} {f1 : D → R Rv} {ms ks pre post : List Ev} {F : Fn} {G : FnR} {fn : List D → R Rv} {q : List D → List D → List D}
theorem val_bnd {β : Type} {F : D × Env → R β} : (val a ρ >>= F) = bnd (a ρ) fun r => F (r.1.1, r.2) := by unfold val; cases a ρ <;> rfl
theorem isB_bnd {β : Type} {F : Bool → R β} : (isB d >>= F) = cnd d (F true) (F false) := isB_cnd
theorem ev_bin : eBin f a b ρ = bnd (a ρ) fun r => bnd (b r.2) fun s => bnd (f r.1.1 s.1.1) fun t => .ok (t, s.2) := by unfold eBin; simp only [val_bnd]; rfl
theorem ev_un : eUn f1 a ρ = bnd (a ρ) fun r => bnd (f1 r.1.1) fun t => .ok (t, r.2) := by unfold eUn; simp only [val_bnd]; rfl
theorem ev_bor : eBor f i b ρ = bnd (look ρ i) fun _ => bnd (b ρ) fun s => bnd (look s.2 i) fun x => bnd (f x s.1.1) fun t => .ok (t, s.2) := by unfold eBor; simp only [val_bnd]; rfl
theorem ev_borR : eBorR f a i ρ = bnd (a ρ) fun r => bnd (look r.2 i) fun y => bnd (f r.1.1 y) fun t => .ok (t, r.2) := by unfold eBorR; simp only [val_bnd]; rfl
theorem ev_bor1 : eBor1 f1 i ρ = bnd (look ρ i) fun x => bnd (f1 x) fun t => .ok (t, ρ) := rfl
theorem ev_nil : evs [] ρ = .ok ([], ρ) := rfl
theorem ev_cons : evs (e :: ms) ρ = bnd (e ρ) fun r => bnd (evs ms r.2) fun s => .ok (r.1.1 :: s.1, s.2) := by rw [evs]; simp only [val_bnd]; rfl
theorem ev_n : eN fn ms ρ = bnd (evs ms ρ) fun r => bnd (fn r.1) fun t => .ok (t, r.2) := rfl
theorem ev_if : eIf t a b ρ = bnd (t ρ) fun r => cnd r.1.1 (a r.2) (b r.2) := by unfold eIf; simp only [val_bnd, isB_bnd]; rfl
theorem ev_and : eAnd a b ρ = bnd (a ρ) fun r => cnd r.1.1 (b r.2) (.ok ((.bl false, false), r.2)) := by unfold eAnd; simp only [val_bnd, isB_bnd]; rfl
theorem ev_or : eOr a b ρ = bnd (a ρ) fun r => cnd r.1.1 (.ok ((.bl true, false), r.2)) (b r.2) := by unfold eOr; simp only [val_bnd, isB_bnd]; rfl
def notR : D → R Rv
  | .bl b => .ok (.bl (!b), false)
  | _ => .no
theorem notR_bl {x : Bool} : notR (.bl x) = .ok (.bl (!x), false) := rfl
theorem ev_not : eNot a ρ = bnd (a ρ) fun r => bnd (notR r.1.1) fun t => .ok (t, r.2) := by
  unfold eNot; simp only [val_bnd]; refine bnd_fun fun r => ?_; obtain ⟨⟨d, k⟩, ρ⟩ := r; cases d <;> rfl
theorem ev_callR : eCallR G pre i post ρ = bnd (look ρ i) fun _ => bnd (evs pre ρ) fun r => bnd (evs post r.2) fun s => bnd (ownG s.2[i]?) fun d => bnd (G (r.1 ++ s.1) d) fun u => .ok (u.1, s.2.set i (.ow u.2)) := by
  show bnd (look ρ i) (fun _ => bnd (evs pre ρ) fun r => bnd (evs post r.2) fun s => _) = _
  refine bnd_fun fun _ => ?_; refine bnd_fun fun r => ?_; refine bnd_fun fun s => ?_
  dsimp only
  split
  · rename_i q; rw [q]; rfl
  · rename_i q
    cases q2 : s.2[i]? with
    | none => rfl
    | some u => cases u with
      | ow d => exact absurd q2 (q d)
      | _ => rfl
theorem ev_callT : eCallT G pre e ρ = bnd (evs pre ρ) fun r => bnd (e r.2) fun s => cnd (.bl s.1.2) (bnd (G r.1 s.1.1) fun u => .ok (u.1, s.2)) .no := by
  show bnd (evs pre ρ) (fun r => bnd (e r.2) fun s => _) = _
  refine bnd_fun fun r => ?_; refine bnd_fun fun s => ?_
  obtain ⟨⟨d, k⟩, ρ'⟩ := s
  cases k <;> rfl
theorem ev_nk : eNK F q ms ks ρ = bnd (evs ms ρ) fun s => bnd (evs ks s.2) fun u => bnd (F (q s.1 u.1)) fun t => .ok (t, u.2) := rfl
theorem isL_ok {xs : List D} : isL (.lst xs) = .ok () := rfl
theorem ev_mut {fm : D → List D → R (D × D)} : eMut fm i ms ρ = bnd (look ρ i) fun d0 => bnd (isL d0) fun _ => bnd (evs ms ρ) fun r => bnd (ownG r.2[i]?) fun d => bnd (fm d r.1) fun u => .ok ((u.1, false), r.2.set i (.ow u.2)) := by
  show bnd (look ρ i) (fun d0 => bnd (isL d0) fun _ => bnd (evs ms ρ) fun r => _) = _
  refine bnd_fun fun d0 => ?_; refine bnd_fun fun _ => ?_; refine bnd_fun fun s => ?_
  dsimp only
  split
  · rename_i q; rw [q]; rfl
  · rename_i q
    cases q2 : s.2[i]? with
    | none => rfl
    | some u => cases u with
      | ow d => exact absurd q2 (q d)
      | _ => rfl
def intR : D → R Int
  | .int i => .ok i
  | _ => .no
theorem intR_i {i : Int} : intR (.int i) = .ok i := rfl
theorem ev_part0 : part none ρ = .ok (none, ρ) := rfl
theorem ev_part1 : part (some e) ρ = bnd (e ρ) fun r => bnd (intR r.1.1) fun i => .ok (some i, r.2) := by
  unfold part; simp only [val_bnd]; refine bnd_fun fun r => ?_; obtain ⟨⟨d, k⟩, ρ⟩ := r; cases d <;> rfl
theorem ev_slice {lo hi : Option Ev} : eSlice a lo hi ρ = bnd (a ρ) fun r => bnd (part lo r.2) fun l => bnd (part hi l.2) fun h => bnd (sliceD l.1 h.1 r.1.1) fun t => .ok (t, h.2) := by unfold eSlice; simp only [val_bnd]; rfl
end
/-! ### statements -/
section
variable {ρ : Env} {a b : Sv} {t e v : Ev} {i j n p c : Nat} {d : D} {w : Bool} {g : Tg} {it : Iv} {ds : List D}
def seqk (b : Sv) : Out → Env → R (Out × Env)
  | .nx, ρ => b ρ
  | o, ρ => .ok (o, ρ)
theorem seqk_nx : seqk b .nx ρ = b ρ := rfl
theorem seqk_rt {r : Rv} : seqk b (.rt r) ρ = .ok (.rt r, ρ) := rfl
theorem ev_seq : sSeq a b ρ = bnd (a ρ) fun r => seqk b r.1 r.2 := by
  show bnd (a ρ) _ = _
  refine bnd_fun fun r => ?_; obtain ⟨o, ρ⟩ := r; cases o <;> rfl
theorem ev_next : sNext ρ = .ok (.nx, ρ) := rfl
theorem keep_tt : keep true (d, true) = .ow d := rfl
theorem keep_tf : keep true (d, false) = .sh d := rfl
theorem ev_asg : sAsg w i e ρ = bnd (e ρ) fun r => .ok (.nx, r.2.set i (keep w r.1)) := rfl
theorem ev_par {a b : Ev} : sPar w i j a b ρ = bnd (a ρ) fun r => bnd (b r.2) fun s => .ok (.nx, (s.2.set i (keep w r.1)).set j (keep w s.1)) := rfl
theorem ev_gN : gN i d ρ = .ok (ρ.set i (.sh d)) := rfl
theorem ev_gTk {gs : List Tg} : gT gs (.kt ds) ρ = gGo gs ds ρ := rfl
theorem ev_g0 : gGo [] [] ρ = .ok ρ := rfl
theorem ev_g1 {gs : List Tg} : gGo (g :: gs) (d :: ds) ρ = bnd (g d ρ) fun ρ1 => gGo gs ds ρ1 := rfl
theorem ev_asgT : sAsgT g e ρ = bnd (e ρ) fun r => bnd (g r.1.1 r.2) fun ρ2 => .ok (.nx, ρ2) := by unfold sAsgT; simp only [val_bnd]; rfl
theorem ev_expr : sExpr e ρ = bnd (e ρ) fun r => .ok (.nx, r.2) := by unfold sExpr; simp only [val_bnd]; rfl
theorem ev_ret : sRet e ρ = bnd (e ρ) fun r => .ok (.rt r.1, r.2) := rfl
theorem ev_retV : sRetV i ρ = bnd (eMove i ρ) fun r => .ok (.rt r.1, r.2) := rfl
theorem ev_sif : sIf t a b ρ = bnd (t ρ) fun r => cnd r.1.1 (a r.2) (b r.2) := by unfold sIf; simp only [val_bnd, isB_bnd]; rfl
theorem ev_for : sFor it g a ρ = bnd (it ρ) fun r => forGo g a r.1 r.2 := rfl
theorem ev_while : sWhile t a ρ = whileGo t a fuel ρ := rfl
theorem ev_put {f3 : D → D → D → R D} : sPut f3 i e v ρ = bnd (v ρ) fun y => bnd (look y.2 i) fun _ => bnd (e y.2) fun x => bnd (ownG x.2[i]?) fun d => bnd (f3 d x.1.1 y.1.1) fun d' => .ok (.nx, x.2.set i (.ow d')) := by
  unfold sPut; simp only [val_bnd]
  refine bnd_fun fun y => ?_
  show bnd (look _ i) _ = _
  refine bnd_fun fun _ => ?_; refine bnd_fun fun x => ?_
  split
  · rename_i q; rw [q]; rfl
  · rename_i q
    cases q2 : x.2[i]? with
    | none => rfl
    | some u => cases u with
      | ow d => exact absurd q2 (q d)
      | _ => rfl
def fldG (c k : Nat) (y : D) : Option Slot → R D
  | some (.ow (.ins c' fs)) => if c' = c ∧ k = fs.length then .ok (.ins c' (fs ++ [y])) else .no
  | _ => .no
theorem ev_fld {k : Nat} : sFld c k e ρ = bnd (e ρ) fun y => bnd (fldG c k y.1.1 y.2[0]?) fun d => .ok (.nx, y.2.set 0 (.ow d)) := by
  unfold sFld; simp only [val_bnd]
  refine bnd_fun fun y => ?_
  split
  · rename_i q
    rw [q]
    show _ = bnd (if _ ∧ _ then _ else _) _
    split <;> rfl
  · rename_i q
    cases q2 : y.2[0]? with
    | none => rfl
    | some u => cases u with
      | ow d => cases d with
        | ins c fs => exact absurd q2 (q c fs)
        | _ => rfl
      | _ => rfl
theorem fldG_0 {y : D} : fldG c 0 y (some (.ow (.ins c []))) = .ok (.ins c [y]) := by simp [fldG]
theorem fldG_1 {x y : D} : fldG c 1 y (some (.ow (.ins c [x]))) = .ok (.ins c [x, y]) := by simp [fldG]
/-! defs -/
theorem end_nx : endOf .nx = .ok (.non, false) := rfl
theorem end_rt {r : Rv} : endOf (.rt r) = .ok r := rfl
theorem fn_eq (hp : ds.length = p) : mkFn n p a ds = bnd (a (slots n ds)) fun r => endOf r.1 := by unfold mkFn; rw [if_pos hp]; rfl
theorem fnR_eq (hp : ds.length + 1 = p) (hj : j < p) : mkFnR n p j a ds d = bnd (a ((slots n (ds.take j ++ d :: ds.drop j)).set j (.ow d))) fun r => bnd (endOf r.1) fun t => bnd (ownG r.2[j]?) fun d' => .ok (t, d') := by
  unfold mkFnR; rw [if_pos ⟨hp, hj⟩]
  show bnd (a _) _ = _
  refine bnd_fun fun r => ?_; obtain ⟨o, ρ⟩ := r
  show bnd (endOf o) _ = _
  refine bnd_fun fun t => ?_
  dsimp only
  split
  · rename_i q; rw [q]; rfl
  · rename_i q
    cases q2 : ρ[j]? with
    | none => rfl
    | some u => cases u with
      | ow d => exact absurd q2 (q d)
      | _ => rfl
def objE : Rv × D → R Rv
  | ((.non, false), d) => .ok (d, false)
  | _ => .no
theorem objE_go : objE ((.non, false), d) = .ok (d, false) := rfl
theorem obj_eq {G : FnR} : mkObj c G ds = bnd (G ds (.ins c [])) objE := by
  show bnd (G ds (.ins c [])) _ = _
  refine bnd_fun fun r => ?_; obtain ⟨⟨x, k⟩, d⟩ := r
  cases x <;> cases k <;> rfl
/-! what is walked -/
theorem ev_iv : iVal e ρ = bnd (e ρ) fun r => bnd (items r.1.1) fun ds => .ok (ds, r.2) := by unfold iVal; simp only [val_bnd]; rfl
theorem items_lst : items (.lst ds) = .ok ds := rfl
theorem items_str {s : List Nat} : items (.str s) = .ok (s.map fun c => .str [c]) := rfl
def rngG : List D → Env → R (List D × Env)
  | [.int j], ρ1 => if -(2 ^ 62) ≤ j ∧ j < 2 ^ 62 then .ok (rng 0 j.toNat, ρ1) else .no
  | [.int i, .int j], ρ1 => if (-(2 ^ 62) ≤ i ∧ i < 2 ^ 62) ∧ -(2 ^ 62) ≤ j ∧ j < 2 ^ 62 then .ok (rng i (j - i).toNat, ρ1) else .no
  | _, _ => .no
theorem ev_range {as : List Ev} : iRange as ρ = bnd (evs as ρ) fun r => rngG r.1 r.2 := by
  show bnd (evs as ρ) _ = _
  refine bnd_fun fun r => ?_; obtain ⟨xs, ρ1⟩ := r
  match xs with
  | [] => rfl
  | [x] => cases x <;> rfl
  | [x, y] => cases x <;> cases y <;> rfl
  | x :: y :: z :: l => cases x <;> cases y <;> rfl
theorem rngG_1 {j : Int} (h1 : -(2 ^ 62) ≤ j) (h2 : j < 2 ^ 62) : rngG [.int j] ρ = .ok (rng 0 j.toNat, ρ) := by simp only [rngG, if_pos (And.intro h1 h2)]
/-! loops -/
theorem for_0 : forGo g a [] ρ = .ok (.nx, ρ) := rfl
def forE (f : Env → R (Out × Env)) : Out → Env → R (Out × Env)
  | .nx, ρ => f ρ
  | .ct, ρ => f ρ
  | .bk, ρ => .ok (.nx, ρ)
  | .rt r, ρ => .ok (.rt r, ρ)
theorem forE_nx {f : Env → R (Out × Env)} : forE f .nx ρ = f ρ := rfl
theorem forE_rt {f : Env → R (Out × Env)} {r : Rv} : forE f (.rt r) ρ = .ok (.rt r, ρ) := rfl
theorem for_s : forGo g a (d :: ds) ρ = bnd (g d ρ) fun ρ1 => bnd (a ρ1) fun r => forE (forGo g a ds) r.1 r.2 := by
  show bnd (g d ρ) (fun ρ1 => bnd (a ρ1) _) = _
  refine bnd_fun fun ρ1 => ?_; refine bnd_fun fun r => ?_; obtain ⟨o, ρ2⟩ := r; cases o <;> rfl
/-- behind a round of a loop with the invariant I; P: what is wanted of the way out -/
def LoopK (I : Env → Prop) (X : Out × Env → Prop) (x : Out × Env) : Prop := match x.1 with
  | .nx => I x.2
  | .ct => I x.2
  | .bk => X (.nx, x.2)
  | .rt r => X (.rt r, x.2)
theorem LK_nx {I : Env → Prop} {X : Out × Env → Prop} : LoopK I X (.nx, ρ) = I ρ := rfl
theorem LK_bk {I : Env → Prop} {X : Out × Env → Prop} : LoopK I X (.bk, ρ) = X (.nx, ρ) := rfl
theorem wp_for {α : Type} {mk : α → D} {xs : List α} {γ : Type} {k : Out × Env → R γ} {P : γ → Prop} (I : Nat → Env → Prop) (h0 : I 0 ρ) (hs : ∀ n x ρ, xs[n]? = some x → I n ρ → Wn (bnd (g (mk x) ρ) a) (LoopK (I (n + 1)) fun y => Wn (k y) P)) (he : ∀ ρ, I xs.length ρ → Wn (k (.nx, ρ)) P) : Wn (bnd (forGo g a (xs.map mk) ρ) k) P := by
  have go : ∀ (ys : List α) (n : Nat) (ρ : Env), (∀ i, ys[i]? = xs[n + i]?) → n + ys.length = xs.length → I n ρ → Wn (bnd (forGo g a (ys.map mk) ρ) k) P := fun ys => by
    induction ys with
    | nil => intro n ρ hy hl h; exact he ρ (by rw [← hl]; exact h)
    | cons y ys ih =>
      intro n ρ hy hl h
      have st := hs n y ρ (by have := hy 0; rw [Nat.add_zero] at this; rw [← this]; rfl) h
      have nxt : ∀ ρ2, I (n + 1) ρ2 → Wn (bnd (forGo g a (ys.map mk) ρ2) k) P := fun ρ2 => ih (n + 1) ρ2 (fun i => by have := hy (i + 1); rw [show n + (i + 1) = n + 1 + i by omega] at this; rw [← this]; rfl) (by rw [List.length_cons] at hl; omega)
      rw [List.map_cons, for_s, bnd_bnd]
      have : (fun x => bnd (bnd (a x) fun r => forE (forGo g a (ys.map mk)) r.1 r.2) k) = fun x => bnd (a x) fun r => bnd (forE (forGo g a (ys.map mk)) r.1 r.2) k := by funext x; rw [bnd_bnd]
      rw [this, ← bnd_bnd]
      refine wp_use st fun x hx => ?_
      obtain ⟨o, ρ2⟩ := x
      cases o with
      | nx => exact nxt _ hx
      | ct => exact nxt _ hx
      | bk => exact hx
      | rt r => exact hx
  exact go xs 0 ρ (fun i => by rw [Nat.zero_add]) (by rw [Nat.zero_add]) h0
theorem wp_while {γ : Type} {k : Out × Env → R γ} {P : γ → Prop} (M : Env → Nat) (I : Env → Prop) (h0 : I ρ) (hM : ∀ ρ, I ρ → M ρ < fuel) (hs : ∀ ρ, I ρ → Wn (bnd (t ρ) fun r => cnd r.1.1 (a r.2) (.ok (.bk, r.2))) (LoopK (fun ρ2 => I ρ2 ∧ M ρ2 < M ρ) fun y => Wn (k y) P)) : Wn (bnd (whileGo t a fuel ρ) k) P := by
  have step : ∀ n ρ, whileGo t a (n + 1) ρ = bnd (bnd (t ρ) fun r => cnd r.1.1 (a r.2) (.ok (.bk, r.2))) fun r => forE (whileGo t a n) r.1 r.2 := fun n ρ => by
    rw [bnd_bnd]
    show (do
      let (x, ρ1) ← val t ρ
      let c ← isB x
      if c then do
        let (o, ρ2) ← a ρ1
        match o with
        | .nx => whileGo t a n ρ2
        | .ct => whileGo t a n ρ2
        | .bk => .ok (.nx, ρ2)
        | .rt r => .ok (.rt r, ρ2)
      else .ok (.nx, ρ1)) = _
    simp only [val_bnd, isB_bnd]
    refine bnd_fun fun r => ?_; obtain ⟨⟨d, b⟩, ρ1⟩ := r
    cases d with
    | bl c => cases c with
      | false => rfl
      | true =>
        show bnd (a ρ1) _ = bnd (a ρ1) _
        refine bnd_fun fun r => ?_; obtain ⟨o, ρ2⟩ := r; cases o <;> rfl
    | _ => rfl
  have go : ∀ (n : Nat) (ρ : Env), I ρ → M ρ < n → Wn (bnd (whileGo t a n ρ) k) P := fun n => by
    induction n with
    | zero => intro ρ _ h; omega
    | succ n ih =>
      intro ρ h hl
      rw [step, bnd_bnd]
      refine wp_use (hs ρ h) fun x hx => ?_
      obtain ⟨o, ρ2⟩ := x
      cases o with
      | nx => exact ih ρ2 hx.1 (by have := hx.2; dsimp only at this; omega)
      | ct => exact ih ρ2 hx.1 (by have := hx.2; dsimp only at this; omega)
      | bk => exact hx
      | rt r => exact hx
  exact go fuel ρ h0 (hM ρ h0)
/-! comprehensions -/
def cndO : Option Ev → Env → R (D × Env)
  | none, ρ => .ok (.bl true, ρ)
  | some t, ρ => bnd (t ρ) fun r => .ok (r.1.1, r.2)
theorem cndO_none : cndO none ρ = .ok (.bl true, ρ) := rfl
theorem cndO_some : cndO (some t) ρ = bnd (t ρ) fun r => .ok (r.1.1, r.2) := rfl
def lcS (g : Tg) (c : Option Ev) (e : Ev) (vs : List Nat) (ds : List D) (ρ1 : Env) : R (Rv × Env) := if noOw ρ1 vs && decide (ds.length ≤ 1000) then do
    let (acc, ρ2) ← lcGo g c e vs ds [] ρ1
    pure ((.lst acc, true), backS ρ1 ρ2 vs)
  else .no
theorem ev_lc {c : Option Ev} {vs : List Nat} : eLc it g c e vs ρ = bnd (it ρ) fun r => lcS g c e vs r.1 r.2 := rfl
theorem lcGo_s {c : Option Ev} {vs : List Nat} {acc : List D} : lcGo g c e vs (d :: ds) acc ρ = bnd (g d (wipeS ρ vs)) fun ρ1 => bnd (cndO c ρ1) fun s => cnd s.1 (bnd (e s.2) fun y => lcGo g c e vs ds (acc ++ [y.1.1]) y.2) (lcGo g c e vs ds acc s.2) := by
  show bnd (g d (wipeS ρ vs)) _ = _
  refine bnd_fun fun ρ1 => ?_
  cases c with
  | none => show bnd (val e ρ1) _ = bnd (e ρ1) _; exact val_bnd
  | some t =>
    show bnd (val t ρ1 >>= fun p => isB p.1 >>= fun b => .ok (b, p.2)) _ = _
    rw [val_bnd, bnd_bnd]
    show _ = bnd (bnd (t ρ1) _) _
    rw [bnd_bnd]
    refine bnd_fun fun r => ?_; obtain ⟨⟨x, k⟩, ρ2⟩ := r
    cases x with
    | bl c => cases c with
      | false => rfl
      | true => show bnd (val e ρ2) _ = bnd (e ρ2) _; exact val_bnd
    | _ => rfl
/-- with an invariant over what is made so far -/
theorem wp_lc {α : Type} {mk : α → D} {xs : List α} {c : Option Ev} {vs : List Nat} {γ : Type} {k : Rv × Env → R γ} {P : γ → Prop} (I : Nat → List D → Env → Prop) (hn : noOw ρ vs = true) (hl : xs.length ≤ 1000) (h0 : I 0 [] ρ) (hs : ∀ n x acc ρ, xs[n]? = some x → I n acc ρ → Wn (bnd (g (mk x) (wipeS ρ vs)) fun ρ1 => bnd (cndO c ρ1) fun s => cnd s.1 (bnd (e s.2) fun y => .ok (acc ++ [y.1.1], y.2)) (.ok (acc, s.2))) fun y => I (n + 1) y.1 y.2) (he : ∀ acc ρ', I xs.length acc ρ' → Wn (k ((.lst acc, true), backS ρ ρ' vs)) P) : Wn (bnd (lcS g c e vs (xs.map mk) ρ) k) P := by
  have go : ∀ (ys : List α) (n : Nat) (acc : List D) (ρ' : Env), (∀ i, ys[i]? = xs[n + i]?) → n + ys.length = xs.length → I n acc ρ' → Wn (bnd (lcGo g c e vs (ys.map mk) acc ρ') fun r => k ((.lst r.1, true), backS ρ r.2 vs)) P := fun ys => by
    induction ys with
    | nil => intro n acc ρ hy hl h; exact he acc ρ (by rw [← hl]; exact h)
    | cons y ys ih =>
      intro n acc ρ' hy hl h
      have st := hs n y acc ρ' (by have := hy 0; rw [Nat.add_zero] at this; rw [← this]; rfl) h
      have nxt := fun acc ρ2 => ih (n + 1) acc ρ2 (fun i => by have := hy (i + 1); rw [show n + (i + 1) = n + 1 + i by omega] at this; rw [← this]; rfl) (by rw [List.length_cons] at hl; omega)
      have e1 : lcGo g c e vs (mk y :: ys.map mk) acc ρ' = bnd (bnd (g (mk y) (wipeS ρ' vs)) fun ρ1 => bnd (cndO c ρ1) fun s => cnd s.1 (bnd (e s.2) fun y => .ok (acc ++ [y.1.1], y.2)) (.ok (acc, s.2))) fun r => lcGo g c e vs (ys.map mk) r.1 r.2 := by
        rw [lcGo_s, bnd_bnd]; refine bnd_fun fun ρ1 => ?_; rw [bnd_bnd]; refine bnd_fun fun s => ?_
        obtain ⟨s1, s2⟩ := s
        cases s1 with
        | bl b => cases b with
          | false => rfl
          | true => show bnd (e s2) _ = bnd (bnd (e s2) _) _; rw [bnd_bnd]; rfl
        | _ => rfl
      rw [List.map_cons, e1, bnd_bnd]
      exact wp_use st fun x hx => nxt _ _ hx
  have e0 : lcS g c e vs (xs.map mk) ρ = bnd (lcGo g c e vs (xs.map mk) [] ρ) fun r => .ok ((.lst r.1, true), backS ρ r.2 vs) := by
    unfold lcS
    rw [hn, List.length_map, decide_eq_true hl]; rfl
  rw [e0, bnd_bnd]
  exact go xs 0 [] ρ (fun i => by rw [Nat.zero_add]) (by rw [Nat.zero_add]) h0
/-- each element is a function of what is walked; the slots stay -/
theorem lc_eq {α : Type} {mk : α → D} {xs : List α} {c : Option Ev} {vs : List Nat} (f : α → Option D) (hn : noOw ρ vs = true) (hl : xs.length ≤ 1000)
    (hs : ∀ x ∈ xs, ∃ ρ', (bnd (g (mk x) (wipeS ρ vs)) fun ρ1 => bnd (cndO c ρ1) fun s => cnd s.1 (bnd (e s.2) fun y => .ok (some y.1.1, y.2)) (.ok (none, s.2))) = .ok (f x, ρ') ∧ wipeS ρ' vs = wipeS ρ vs ∧ backS ρ ρ' vs = ρ) (hb : backS ρ ρ vs = ρ := by rfl) : lcS g c e vs (xs.map mk) ρ = .ok ((.lst (xs.filterMap f), true), ρ) := by
  refine Wn.eq (m := lcS g c e vs (xs.map mk) ρ) ?_
  have : lcS g c e vs (xs.map mk) ρ = bnd (lcS g c e vs (xs.map mk) ρ) .ok := by cases lcS g c e vs (xs.map mk) ρ <;> rfl
  rw [this]
  refine wp_lc (fun n acc ρ' => acc = (xs.take n).filterMap f ∧ wipeS ρ' vs = wipeS ρ vs ∧ backS ρ ρ' vs = ρ) hn hl ⟨by simp, rfl, hb⟩ (fun n x acc ρ' hx h => ?_) fun acc ρ' h => ?_
  · obtain ⟨rfl, h1, h2⟩ := h
    have mem := List.mem_of_getElem? hx
    obtain ⟨ρ2, e2, h3, h4⟩ := hs x mem
    have tk : xs.take (n + 1) = xs.take n ++ [x] := by rw [List.take_add_one, hx]; rfl
    rw [h1]
    have key : (bnd (g (mk x) (wipeS ρ vs)) fun ρ1 => bnd (cndO c ρ1) fun s => cnd s.1 (bnd (e s.2) fun y => .ok ((xs.take n).filterMap f ++ [y.1.1], y.2)) (.ok ((xs.take n).filterMap f, s.2))) = bnd (bnd (g (mk x) (wipeS ρ vs)) fun ρ1 => bnd (cndO c ρ1) fun s => cnd s.1 (bnd (e s.2) fun y => .ok (some y.1.1, y.2)) (.ok (none, s.2))) fun r => .ok ((xs.take n).filterMap f ++ r.1.toList, r.2) := by
      rw [bnd_bnd]; refine bnd_fun fun ρ1 => ?_; rw [bnd_bnd]; refine bnd_fun fun s => ?_
      obtain ⟨s1, s2⟩ := s
      cases s1 with
      | bl b => cases b with
        | false => show R.ok _ = R.ok _; simp
        | true => show bnd (e s2) _ = bnd (bnd (e s2) _) _; rw [bnd_bnd]; rfl
      | _ => rfl
    rw [key, e2]
    refine ⟨_, rfl, ?_, h3, h4⟩
    rw [tk, List.filterMap_append, List.filterMap_cons]
    cases f x <;> simp
  · obtain ⟨rfl, h1, h2⟩ := h
    exact ⟨_, rfl, by rw [h2, List.take_length]⟩
end
end DY

set_option Elab.async false
set_option linter.all false
set_option maxRecDepth 100000
set_option maxHeartbeats 4000000
namespace DY
/-! ### operations, as rewriting -/
section
variable {own : D → D → R Rv} {own1 : D → R Rv} {i j : Int} {a b : List Nat} {xs ys : List D} {x y z d : D} {c c' : Nat} {fs fs' : List D} {p q : Bool} {kvs : List (Ky × D)} {kvt : List (List Ky × D)} {f h : D → D → R Rv} {t : BT}
theorem add_i : addD own (.int i) (.int j) = .ok (.int (i + j), false) := rfl
theorem add_s (h : a.length + b.length ≤ 100000) : addD own (.str a) (.str b) = .ok (.str (a ++ b), false) := by simp only [addD, if_pos h]; rfl
theorem add_l (h : xs.length + ys.length ≤ 1000) : addD own (.lst xs) (.lst ys) = .ok (.lst (xs ++ ys), true) := by simp only [addD, if_pos h]
theorem sub_i : subD own (.int i) (.int j) = .ok (.int (i - j), false) := rfl
theorem mul_i (h : mulOk i j = true) : mulD own (.int i) (.int j) = .ok (.int (i * j), false) := by simp only [mulD, if_pos h]; rfl
theorem fdiv_i (h : divOk j = true) : fdivD (.int i) (.int j) = .ok (.int (i.fdiv j), false) := by simp only [fdivD, if_pos h]; rfl
theorem mod_i (h : j ≠ 0) : modD (.int i) (.int j) = .ok (.int (i.fmod j), false) := by simp only [modD, if_neg h]; rfl
theorem pow_i (h1 : 0 ≤ j) (h2 : j ≤ 1000) (h3 : i.natAbs < 18446744073709551616) : powD (.int i) (.int j) = .ok (.int (i ^ j.toNat), false) := by simp only [powD, if_pos (And.intro h1 (And.intro h2 h3))]; rfl
theorem neg_i : negD own1 (.int i) = .ok (.int (-i), false) := rfl
theorem mulOk_n (h1 : i.natAbs ≤ 2 ^ 200) (h2 : j.natAbs ≤ 2 ^ 200) : mulOk i j = true := mulOk_b (by omega) (by omega) (by omega) (by omega)
theorem lt_i : ltD (.int i) (.int j) = .ok (.bl (decide (i < j)), false) := rfl
theorem gt_i : gtD (.int i) (.int j) = .ok (.bl (decide (j < i)), false) := rfl
theorem ge_i : geD (.int i) (.int j) = .ok (.bl (decide (j ≤ i)), false) := rfl
theorem eq_i : eqD own (.int i) (.int j) = .ok (.bl (decide (i = j)), false) := rfl
theorem eq_s : eqD own (.str a) (.str b) = .ok (.bl (decide (a = b)), false) := rfl
theorem eq_o : eqD own (.ins c fs) y = own (.ins c fs) y := by cases y <;> rfl
theorem ne_s : neD own (.str a) (.str b) = .ok (.bl (!decide (a = b)), false) := rfl
theorem eqv_s : eqv (.str a) (.str b) = decide (a = b) := by unfold eqv; rw [Bool.eq_iff_iff]; simp
theorem eq_g (hx : dok dep x = true) (hy : dok dep y = true) : eqD own x y = .ok (.bl (eqv x y), false) := by
  have : eqG own x y = .ok (.bl (eqv x y), false) := by unfold eqG; rw [hx, hy]; rfl
  cases x <;> cases y <;> first | exact this | rfl | (rw [eqv_s]; rfl)
theorem ne_g (hx : dok dep x = true) (hy : dok dep y = true) : neD own x y = .ok (.bl (!eqv x y), false) := by
  have : neG own x y = .ok (.bl (!eqv x y), false) := by unfold neG; rw [hx, hy]; rfl
  cases x <;> cases y <;> first | exact this | rfl | (rw [eqv_s]; rfl)
theorem isN_n : isN .non .non = .ok (.bl true, false) := rfl
theorem isN_t : isN (.tup xs) .non = .ok (.bl false, false) := rfl
theorem isN_o : isN (.ins c fs) .non = .ok (.bl false, false) := rfl
/-! own operators -/
theorem sel_t {g : D → D → Bool} (hg : g x y = true) : sel g f h x y = f x y := by unfold sel; rw [hg]; rfl
theorem sel1_t {g : D → Bool} {f h : D → R Rv} (hg : g x = true) : sel1 g f h x = f x := by unfold sel1; rw [hg]; rfl
/-! in -/
theorem in_c {n : Nat} : inD (.str [n]) (.str a) = .ok (.bl (decide (n ∈ a)), false) := rfl
theorem in_l (h : (dok dep x && doks dep xs) = true) : inD x (.lst xs) = .ok (.bl (xs.any fun z => eqv z x), false) := by
  unfold inD inB
  cases x <;> first | (simp only [h, if_true]; rfl) | (cases h; done)
theorem nin_c {n : Nat} : ninD (.str [n]) (.str a) = .ok (.bl (!decide (n ∈ a)), false) := rfl
/-! x[i] -/
theorem ixt_0 : ixD (.tup (x :: xs)) (.int 0) = .ok (x, false) := by show opt (atI (x :: xs) 0) = _; simp [atI, ixN, opt]
theorem ixt_1 : ixD (.tup (x :: y :: xs)) (.int 1) = .ok (y, false) := by show opt (atI (x :: y :: xs) 1) = _; simp [atI, ixN, opt]; rw [if_pos (by omega)]; rfl
theorem ixt_2 : ixD (.tup (x :: y :: z :: xs)) (.int 2) = .ok (z, false) := by show opt (atI (x :: y :: z :: xs) 2) = _; simp [atI, ixN, opt]; rw [if_pos (by omega)]; rfl
theorem ixl_0 : ixD (.lst (x :: xs)) (.int 0) = .ok (x, false) := by show opt (atI (x :: xs) 0) = _; simp [atI, ixN, opt]
theorem ixl_1 : ixD (.lst (x :: y :: xs)) (.int 1) = .ok (y, false) := by show opt (atI (x :: y :: xs) 1) = _; simp [atI, ixN, opt]; rw [if_pos (by omega)]; rfl
theorem ixl_2 : ixD (.lst (x :: y :: z :: xs)) (.int 2) = .ok (z, false) := by show opt (atI (x :: y :: z :: xs) 2) = _; simp [atI, ixN, opt]; rw [if_pos (by omega)]; rfl
theorem ix_l (h0 : 0 ≤ i) (h1 : i < xs.length) : ixD (.lst xs) (.int i) = .ok (xs[i.toNat]'(by omega), false) := by
  obtain ⟨d, e1, e2⟩ := at_ok h0 h1
  show opt (atI xs i) = _
  rw [e2, List.getElem?_eq_getElem (by omega)] at *
  cases e1; rfl
theorem ix_f (h0 : 0 ≤ i) (h1 : i < xs.length) : ixD (.fls xs) (.int i) = .ok (xs[i.toNat]'(by omega), false) := by
  obtain ⟨d, e1, e2⟩ := at_ok h0 h1
  show opt (atI xs i) = _
  rw [e2, List.getElem?_eq_getElem (by omega)] at *
  cases e1; rfl
theorem sl_f {lo hi : Option Int} : sliceD lo hi (.fls xs) = .ok (.lst (cut xs lo hi), true) := rfl
theorem sl_s {lo hi : Option Int} (h : a.length ≤ 100000) : sliceD lo hi (.str a) = .ok (.str (cut a lo hi), false) := by simp only [sliceD, if_pos h]; rfl
/-! built-ins -/
theorem len_l : lenB own1 (.lst xs) = .ok (.int xs.length, false) := rfl
theorem len_f : lenB own1 (.fls xs) = .ok (.int xs.length, false) := rfl
theorem len_s (h : a.length ≤ 100000) : lenB own1 (.str a) = .ok (.int a.length, false) := by simp only [lenB, if_pos h]; rfl
theorem isi_int_i : isiD [.int i, .ty .int] = .ok (.bl true, false) := rfl
theorem isi_bool_i : isiD [.int i, .ty .bool] = .ok (.bl false, false) := rfl
theorem isi_str_s : isiD [.str a, .ty .str] = .ok (.bl true, false) := rfl
theorem isi_int_o : isiD [.ins c fs, .ty .int] = .ok (.bl false, false) := rfl
theorem isi_o : isiD [.ins c fs, .cls c'] = .ok (.bl (decide (c = c')), false) := rfl
theorem abs_i : absD [.int i] = .ok (.int (if i < 0 then -i else i), false) := rfl
theorem int_i : intD [.int i] = .ok (.int i, false) := rfl
theorem max_i : maxD [.int i, .int j] = .ok (.int (max i j), false) := by
  have : (if j > i then j else i) = max i j := by rw [Int.max_def]; split <;> split <;> omega
  rw [← this]; rfl
theorem min_i : minD [.int i, .int j] = .ok (.int (min i j), false) := by
  have : (if j < i then j else i) = min i j := by rw [Int.min_def]; split <;> split <;> omega
  rw [← this]; rfl
theorem bools_map (l : List Bool) : boolsOf (l.map D.bl) = .ok l := by
  induction l with
  | nil => rfl
  | cons b l ih => rw [List.map_cons, boolsOf, ih]; rfl
theorem all_m {l : List Bool} : allD [.lst (l.map D.bl)] = .ok (.bl (l.all id), false) := by
  show (boolsOf (l.map D.bl) >>= fun bs => bl_ (bs.all id)) = _; rw [bools_map]; rfl
theorem str_i (h : i.natAbs.log2 < 1920) : strD own1 [.int i] = .ok (.str (figs i), false) := by simp only [strD, if_pos h]; rfl
theorem str_o : strD own1 [.ins c fs] = own1 (.ins c fs) := rfl
theorem mkTup_e (h : xs.length ≤ 1000) : mkTup xs = .ok (.tup xs, false) := by unfold mkTup; rw [if_pos h]
theorem mkLst_e (h : xs.length ≤ 1000) : mkLst xs = .ok (.lst xs, true) := by unfold mkLst; rw [if_pos h]
theorem app_e (h : xs.length < 1000) : appendM (.lst xs) [y] = .ok (.non, .lst (xs ++ [y])) := by simp only [appendM, if_pos h]
theorem put_l0 : putM (.lst (x :: xs)) (.int 0) y = .ok (.lst (y :: xs)) := by simp [putM, ixN]
theorem put_l1 : putM (.lst (x :: z :: xs)) (.int 1) y = .ok (.lst (x :: y :: xs)) := by simp [putM, ixN]; rw [if_pos (by omega)]; rfl
theorem put_l2 {w : D} : putM (.lst (x :: z :: w :: xs)) (.int 2) y = .ok (.lst (x :: z :: y :: xs)) := by simp [putM, ixN]; rw [if_pos (by omega)]; rfl
theorem fld_0 : fldD c 0 (.ins c (x :: fs)) = .ok (x, false) := by simp [fldD, opt]
theorem fld_1 : fldD c 1 (.ins c (x :: y :: fs)) = .ok (y, false) := by simp [fldD, opt]
end
end DY
namespace DY
end DY
namespace DY
theorem wipe_0 {ρ : Env} : wipeS ρ [] = ρ := rfl
theorem wipe_s {ρ : Env} {i : Nat} {is : List Nat} : wipeS ρ (i :: is) = (wipeS ρ is).set i .un := rfl
end DY
namespace DY
section
variable {ρ : Env} {ek ev : Ev} {g : Tg} {it : Iv} {d : D} {ds : List D}
end
end DY
namespace DY
section
variable {ρ ρ0 : Env} {e : Ev} {g : Tg} {d : D} {ds acc : List D} {c : Option Ev} {i : Nat} {is vs : List Nat} {s : Slot}
def okS : Option Slot → Bool
  | some (.ow _) => false
  | some _ => true
  | none => false
/-- a slot that holds no object -/
def unS : Option D → Slot
  | none => .un
  | some d => .sh d
theorem okS_un : okS (some .un) = true := rfl
theorem okS_sh : okS (some (.sh d)) = true := rfl
theorem okS_us {k : Option D} : okS (some (unS k)) = true := by cases k <;> rfl
theorem noOw_0 : noOw ρ [] = true := rfl
theorem noOw_s : noOw ρ (i :: is) = (okS ρ[i]? && noOw ρ is) := by
  unfold noOw
  rw [List.all_cons]
  cases ρ[i]? with
  | none => rfl
  | some s => cases s <;> rfl
theorem back_0 : backS ρ0 ρ [] = ρ := rfl
theorem back_s : backS ρ0 ρ (i :: is) = (backS ρ0 ρ is).set i (ρ0.getD i .un) := rfl
theorem getD_0 {t : Slot} : (s :: ρ).getD 0 t = s := rfl
theorem getD_s {t : Slot} : (s :: ρ).getD (i + 1) t = ρ.getD i t := by simp [List.getD]
theorem lcS_lit (hn : noOw ρ vs = true) (hl : ds.length ≤ 1000) : lcS g c e vs ds ρ = bnd (lcGo g c e vs ds [] ρ) fun r => .ok ((.lst r.1, true), backS ρ r.2 vs) := by
  unfold lcS
  simp only [hn, decide_eq_true hl]; rfl
theorem lcGo_0 : lcGo g c e vs [] acc ρ = .ok (acc, ρ) := rfl
end
end DY

set_option Elab.async false
set_option linter.all false
set_option maxRecDepth 100000
namespace DY
/-! ### ties: walks and their weights -/
abbrev Wd := List Nat
abbrev Tie := Wd × Wd × Int
section
variable {ps : List Wd} {ts : List Tie} {p q a b : Wd} {w r : Int} {vs : List Wd}
/-! ### all middles: one behind the other -/
end
end DY

set_option Elab.async false
set_option linter.all false
set_option maxRecDepth 100000
set_option maxHeartbeats 4000000
namespace DY
local instance : Tb := { T := [] }
/-! ### dicts by texts: the keys in order, the values a function of them -/
section
variable {ks : List Wd} {f : Wd → D} {k : Wd} {v : D}
end
section
variable {κ : Type} [DecidableEq κ] {kvs : List (κ × D)} {k k' : κ} {v : D}
end
/-! ### dicts by pairs of texts -/
def k2 (a b : Wd) : List Ky := [.inr a, .inr b]
section
variable {kvs : List (List Ky × D)} {a b : Wd} {z : D}
end
/-! ### the new readings, by rewriting -/
section
variable {ρ : Env} {e : Ev} {ds : List D} {i : Nat}
/-! lending -/
end
/-! list of a text -/
section
variable {xs : List D} {ys : List Nat} {kvs : List (Ky × D)}
/-! pop at a place -/
end
/-! comprehensions with pairs as keys -/
section
variable {ρ : Env} {ek ev : Ev} {g : Tg} {it : Iv} {d : D} {ds : List D}
end
end DY

set_option Elab.async false
set_option linter.all false
set_option maxRecDepth 100000
set_option maxHeartbeats 4000000
/-! ### the readings of DYzp, DYdv, DYtd, by rewriting -/
namespace DY
local instance : Tb := { T := [] }
section
variable {ρ : Env} {e e1 e2 v m m1 m2 m3 : Ev} {ds es : List D} {i j : Nat} {a b n : Int} {x y d : D}
end
end DY

set_option Elab.async false
set_option linter.all false
set_option maxRecDepth 100000
set_option maxHeartbeats 4000000
/-! ### list(range(i, j)) -/
namespace DY
open PySem L2 PySem.Spec PyProof.Rows
section
variable [Tb]
end
local instance : Tb := { T := [] }
end DY

set_option Elab.async false
set_option linter.all false
set_option maxRecDepth 100000
set_option maxHeartbeats 4000000
/-! DYtr: a try whose body does not raise -/
namespace DY
open PySem L2 PySem.Spec PyProof.Rows SL
variable [Tb]
/-! repr of a truth -/
end DY

set_option Elab.async false
set_option linter.all false
set_option maxRecDepth 100000
set_option maxHeartbeats 4000000
/-! ### s[::-1] of a text, tuple(text), text.upper(), repr of small data -/
namespace DY
open PySem L2 PySem.Spec PyProof.Rows
variable [Tb]
def revTD : D → R Rv
  | .str xs => if xs.length ≤ 1000 then .ok (.str ((Builtin.Str.strSliceIndices none none (-1) xs.length).filterMap (xs[·]?)), false) else .no
  | _ => .no
section
variable {X : Cx} {A : CT} {σ : L2.St} {H : Hp} {Q : VK}
/-! ### tuple(text) -/
def tupleSD : List D → R Rv
  | [.str xs] => if xs.length ≤ 1000 then .ok (.tup (xs.map fun c => .str [c]), false) else .no
  | ds => tupleD ds
/-! ### text.upper() -/
/-! ### repr of small data -/
def reprXD : List D → R Rv
  | [.non] => .ok (.str [78, 111, 110, 101], false)
  | [.bl b] => .ok (.str (if b then [84, 114, 117, 101] else [70, 97, 108, 115, 101]), false)
  | [.int i] => if i.natAbs.log2 < 1920 then .ok (.str (Str.ofString (toString i)).cps.toList, false) else .no
  | [.str xs] => if (reprText (S xs)).length ≤ 100000 then .ok (.str (reprText (S xs)).cps.toList, false) else .no
  | _ => .no
theorem o_reprX : CallR X (.builtin "repr") (rDn X.K A reprXD) := by
  intro pins s σ H xs us Q I r h
  obtain ⟨G, ds, r0, sb, rs, e, k⟩ := h
  have I' : Inv X pins σ H { s with toks := s.toks + 1 } := I.kept (t' := s.toks + 1) fun b o e => e
  unfold reprXD at e
  split at e
  · cases e
    obtain ⟨v1, rfl, r1⟩ := rs.inv1
    obtain ⟨u, rfl, ru⟩ := vals1 r
    cases r1
    obtain rfl : u = Value.none := ru
    exact P.repr_of_none ⟨.str "None", H, I', ⟨s.toks, rfl⟩, same_end (K := X.K) sb (Rep.str (K := X.K) (A := A) [78, 111, 110, 101]) k⟩
  · rename_i b
    cases e
    obtain ⟨v1, rfl, r1⟩ := rs.inv1
    obtain ⟨u, rfl, ru⟩ := vals1 r
    cases r1
    obtain rfl : u = Value.bool b := ru
    refine P.repr_of_bool ⟨.str (if b then "True" else "False"), H, I', ⟨s.toks, rfl⟩, ?_⟩
    have := same_end (K := X.K) sb (Rep.str (K := X.K) (A := A) (if b then [84, 114, 117, 101] else [70, 97, 108, 115, 101])) k
    cases b <;> exact this
  · rename_i i
    split at e
    · rename_i hl
      cases e
      obtain ⟨v1, rfl, r1⟩ := rs.inv1
      obtain ⟨u, rfl, ru⟩ := vals1 r
      cases r1
      obtain ⟨t, rfl⟩ : ∃ t, u = Value.int i t := ru
      refine P.repr_of_int hl ⟨.str (toString i), H, I', ⟨s.toks, rfl⟩, ?_⟩
      have := same_end (K := X.K) sb (Rep.str (K := X.K) (A := A) (Str.ofString (toString i)).cps.toList) k
      rw [S_cps] at this
      exact this
    · cases e
  · rename_i xs
    split at e
    · rename_i hl
      cases e
      obtain ⟨v1, rfl, r1⟩ := rs.inv1
      obtain ⟨u, rfl, ru⟩ := vals1 r
      cases r1
      obtain ⟨t, rfl⟩ : ∃ t, u = Value.str (S xs) t := ru
      refine P.repr_of_str ⟨.str (reprText (S xs)), H, I', ⟨s.toks, rfl⟩, ?_⟩ (by rw [sizeLine_eq]; omega)
      have := same_end (K := X.K) sb (Rep.str (K := X.K) (A := A) (reprText (S xs)).cps.toList) k
      rw [S_cps] at this
      exact this
    · cases e
  · cases e
end
end DY

set_option Elab.async false
set_option linter.all false
set_option maxRecDepth 100000
set_option maxHeartbeats 4000000
namespace DY
open PySem L2 PySem.Spec PyProof.Rows
variable [Tb]
/-! ### xs != [] of an own list, whatever it holds -/
def neE : D → D → R Rv
  | .lst xs, .lst [] => bl_ (!xs.isEmpty)
  | _, _ => .no
section
variable {X : Cx} {A : CT}
variable {a b : Expr} {ma mb : Ev} {pos pos' p apos : Pos} {x : Str} {i : Nat}
/-! ### xs.pop(), xs.extend(ys) -/
def extendM : D → List D → R (D × D)
  | .lst xs, [.lst ys] => if xs.length + ys.length ≤ 100000 then .ok (.non, .lst (xs ++ ys)) else .no
  | _, _ => .no
/-! ### tuple * int -/
def mulT : D → D → R Rv
  | .tup a, .int k => if a ≠ [] ∧ 2 ≤ k ∧ k ≤ 1000 ∧ a.length * k.toNat ≤ 1000 then .ok (.tup (List.replicate k.toNat a).flatten, false) else .no
  | _, _ => .no
theorem n2_mulT : N2 mulT := fun x y d z => by
  unfold mulT at z
  split at z
  · split at z <;> cases z
  · cases z
/-! ### repr of plain data, of {} -/
noncomputable def reprA : List D → R Rv
  | [.dic []] => .ok (.str [123, 125], false)
  | [x] => if seqD x = true then reprD [x] else reprXD [x]
  | _ => .no
theorem o_reprA (hg : X.A.guards = some []) (hu : X.A.units + 65 < cLine) : CallR X (.builtin "repr") (rDn X.K A reprA) := by
  intro pins s σ H xs us Q I r h
  obtain ⟨G, ds, r0, sb, rs, e, k⟩ := h
  unfold reprA at e
  split at e
  · cases e
    obtain ⟨v1, rfl, r1⟩ := rs.inv1
    obtain ⟨u, rfl, ru⟩ := vals1 r
    cases r1 with
    | @dic p kvs ds hp rk =>
      cases rk
      obtain rfl : u = Value.ref p := ru
      obtain ⟨_, hS, vs, rv, o, es, ep, e1, ex, e2, ks, e3⟩ := dk_rd I.hok (sb.dK hp)
      have h0 : es.toList = [] := by
        cases rv
        generalize es.toList = l at e3
        obtain ⟨e3, _⟩ := e3
        cases e3
        rfl
      have rd : Reads s.heap (.ref p) (.dict []) (p :: [] ++ []) := .dict e1 ex.1 e2 (by rw [h0]; exact .nil) (by rw [h0]; exact .nil)
      refine repr_of_reads' rd (by decide) (fun _ z => ?_) hg (by show X.A.units + (_ + 1) < cLine; have : (PyData.dict []).depth ≤ 60 := by decide
                                                                  omega) (fun b o e => e) (fun h' t tk hk => ?_) (by decide +kernel)
      · simp at z
        rw [z] at hS
        simp at hS
      · have I' : Inv X pins σ H { s with heap := h', toks := tk } := I.kept (t' := tk) hk
        exact ⟨.str (PyData.dict []).shown, H, I', ⟨t, rfl⟩, same_end (K := X.K) sb (Rep.str (K := X.K) (A := A) [123, 125]) k⟩
  · split at e
    · exact o_repr hg hu pins s σ H xs us Q I r ⟨G, _, r0, sb, rs, e, k⟩
    · exact o_reprX pins s σ H xs us Q I r ⟨G, _, r0, sb, rs, e, k⟩
  · cases e
/-! ### t[:0:-1] -/
section
variable {prog : Program} {w : World} {A : Around} {E : Value → Shared → Prop} {s : Shared}
end
/-! ### list.index of a text -/
def isSD : D → Bool
  | .str _ => true
  | _ => false
end
/-! ### the def that tells an error: an old list, too -/
def runS2 (n : Nat) (mb : Nat → D → Sv) : D → R Rv := fun d =>
  match d with
  | .ins c [x] => do
    let r ← mkFn n 1 (mb c x) [.cls 99]
    if texts r.1 = true then .ok r else .no
  | _ => .no
section
variable {P : Program} {w : World} {K : PySem.W.Frag} {mg : Str → Option Value} {base : Heap} {x qual e : Str} {f : Addr} {fd : FuncData} {N : List Str} {k n : Nat} {A : CT} {mb : Nat → D → Sv} {l : List Nat}
theorem sort2_ok {st : Stmt} (F : L2.Fun K x qual st f fd) (S : FnScope N [e] (defScope st)) (hn : N.length = n) (h1 : 1 ≤ n) (hc : 99 ∉ A.cs) (hx : 99 ∉ A.xs)
    (hbody : ∀ (tb : Tb) (cdv : Value) (Ar : Around) (outer : List PySem.Env) (s : Shared) (H : Hp) (a : Addr) (oe : Obj) (c : Nat) (x : D), SL.RoomG k (Ar.deeper (envOfC qual (defScope st) s.heap.objs.size f cdv)) → c ∈ A.xs → @ErrAt tb (A.err a l) (SL.cxE P w K mg base N qual (defScope st) f cdv Ar outer s H a oe) c x →
      @PDSs tb (A.err a l) none (SL.cxE P w K mg base N qual (defScope st) f cdv Ar outer s H a oe) (defBody st) (mb c x)) :
    SL.FnX P w K mg base (k + 1) f fd e (spX K A (runS2 n mb)) := SL.funX_ok F S fun cdv Ar outer s H a oe cls dd Q hr hz hf h => by
  obtain ⟨G, d, r, sb, rx, er, kk⟩ := h
  obtain ⟨c, y, nm, v, p, rfl, hcx, rfl, hnm, rfl, hG, hv⟩ := rx
  obtain ⟨r1, e1, e2⟩ := bind_ok (show (mkFn n 1 (mb c y) [.cls 99] >>= fun r => if texts r.1 = true then R.ok r else .no) = .ok r from er)
  split at e2
  · rename_i ht
    cases e2
    have s0 := same_of _ sb
    have ad : (A.err a l).ad c = A.ad c := if_neg fun (z : c = 99) => hx (z ▸ hcx)
    have sb' := sub_to (j := { T := Tb.T, base := G }) sb rfl (fun _ _ z => z)
    have le := CT.le_err (A := A) (a := a) (l := l) hc
    have er : @ErrAt { T := Tb.T, base := G } (A.err a l) (SL.cxE P w K mg base N qual (defScope st) f cdv Ar outer s H a oe) c y :=
      @ErrAt.mk { T := Tb.T, base := G } _ _ _ _ ⟨oe, p, nm, v, List.mem_singleton.mpr rfl, by rw [ad]; exact hz, hf, hnm, hG, hv.chg le⟩
    refine ⟨_, hbody _ cdv Ar outer s H a oe c y hr hcx er, ?_⟩
    refine @enter_F { T := Tb.T, base := G } _ _ _ _ _ _ _ _ _ C8.E0 hn h1 ⟨rfl, G, [.cls 99], _, sb', .cons (.cls 99 (List.mem_cons_self ..)) .nil, e1, fun u G' H' n0 rn => ?_⟩
    refine kk u G' H' (nx0_to n0 rfl (s0.trans (nx0_gs _ n0))) ?_
    obtain ⟨r1, r2⟩ := r
    dsimp only at ht
    cases r2 with
    | true =>
      obtain ⟨q, e3, g3, hh, h4, h5⟩ := rn
      cases r1 with
      | lst ds =>
        obtain ⟨vs, h6, h7⟩ := hh
        exact ⟨q, e3, g3, ⟨vs, h6, reps_str ht h7⟩, h4, h5⟩
      | _ => cases ht
    | false =>
      have rr : Rep K (A.err a l) G' u r1 := rn
      cases r1 with
      | lst ds =>
        cases rr with
        | lst h6 h7 => exact RepR.of (.lst h6 (reps_str ht h7))
      | _ => cases ht
  · cases e2
end
end DY
/-! ### str of an own object: only where its own answer is a text -/
namespace DY
open PySem L2 PySem.Spec PyProof.Rows
def strG : R Rv → R Rv
  | .ok (.str l, false) => .ok (.str l, false)
  | _ => .no
theorem strG_e {l : List Nat} : strG (.ok (.str l, false)) = .ok (.str l, false) := rfl
theorem strG_ok {m : R Rv} {r : Rv} (h : strG m = .ok r) : ∃ l, m = .ok (.str l, false) ∧ r = (.str l, false) := by
  unfold strG at h
  split at h
  · cases h; exact ⟨_, rfl, rfl⟩
  · cases h
theorem nn_own {own : D → R Rv} (ho : ∀ x d, own x ≠ .ex d) : NN (strD own) := fun xs d h => by
  unfold strD at h
  split at h
  · split at h <;> cases h
  · cases h
  · exact ho _ _ h
  · cases h
theorem nn_strG {g : D → Bool} {F : D → R Rv} : NN (strD (sel1 g (fun x => strG (F x)) no1)) := nn_own fun x d h => by
  unfold sel1 at h
  split at h
  · have h' : strG (F x) = .ex d := h
    unfold strG at h'
    split at h' <;> cases h'
  · cases h
section
variable [Tb] {X : Cx} {A : CT} {CX : CXT} {k : Nat} {f : Addr} {fd : FuncData} {ps : List Str} {E : XK}
theorem o_strG {F : Fn} {c : Nat} (o : SL.OwnOp X.K (A.ad c) f "__str__") (Fo : FnOk X.prog X.w X.K X.mg X.base CX k f fd ps (spF X.K A F 1)) (hr : Room (k + 2) X.A) (hb : Binds X.K fd ps []) (hx : Passes CX X E) :
    CallR X (.type "str") (fun xs H Q => ∃ x, xs = [x] ∧ rDu X.K A (sel1 (isC c) (fun x => strG (F [x])) no1) x H Q) := by
  intro pins s σ H xs us Q I r0 h
  obtain ⟨x, rfl, G, d1, r, sb, r1, e, k⟩ := h
  unfold sel1 at e
  by_cases q : isC c d1 = true
  · rw [if_pos q] at e
    obtain ⟨l, e', rfl⟩ := strG_ok (show strG (F [d1]) = .ok r from e)
    obtain ⟨f1, rfl⟩ := isC_ok q
    cases id r1 with
    | ins hh =>
      refine SL.call_strOwn o Fo hr hb hx pins s σ H _ us Q I r0 ⟨_, _, _, rfl, sb.ins hh, rfl, G, _, _, sb, .cons r1 .nil, e', fun v G' H' n0 rn => ?_⟩
      have rn0 := rn
      cases (show Rep X.K A G' v (.str l) from rn)
      exact ⟨_, rfl, k _ G' H' n0 rn0⟩
  · rw [if_neg q] at e; cases e
end
end DY

set_option Elab.async false
set_option linter.all false
set_option maxRecDepth 100000
set_option maxHeartbeats 4000000
/-! ### text.partition(sign), text.split(sign), int(text) -/
namespace DY
open PySem L2 PySem.Spec PyProof.Rows
variable [Tb]
/-- what stands ahead of a sign, and behind it -/
def bef (c : Nat) : List Nat → List Nat
  | [] => []
  | x :: xs => if x = c then [] else x :: bef c xs
def beh (c : Nat) : List Nat → List Nat
  | [] => []
  | x :: xs => if x = c then xs else beh c xs
theorem bef_beh {c : Nat} : ∀ {a : List Nat}, c ∈ a → a = bef c a ++ c :: beh c a
  | x :: xs, h => by
    unfold bef beh
    by_cases e : x = c
    · rw [if_pos e, if_pos e, e]; rfl
    · rw [if_neg e, if_neg e, List.cons_append, ← bef_beh (a := xs) (by rcases List.mem_cons.mp h with h | h; exact absurd h.symm e; exact h)]
theorem bef_no {c : Nat} : ∀ a : List Nat, c ∉ bef c a
  | [] => by simp [bef]
  | x :: xs => by
    unfold bef
    split
    · simp
    · rename_i h; simp; exact ⟨fun e => h e.symm, bef_no xs⟩
def partD : D → D → R Rv
  | .str a, .str [c] => if a.length ≤ 100000 then (if c ∈ a then .ok (.kt [.str (bef c a), .str [c], .str (beh c a)], false) else .ok (.kt [.str a, .str [], .str []], false)) else .no
  | _, _ => .no
/-- the parts between a sign -/
def splC (c : Nat) : List Nat → List (List Nat)
  | [] => [[]]
  | x :: xs => if x = c then [] :: splC c xs else match splC c xs with
    | [] => [[x]]
    | y :: ys => (x :: y) :: ys
def splitD : D → D → R Rv
  | .str a, .str [c] => if a.length ≤ 100000 ∧ c < 256 then .ok (.lst ((splC c a).map D.str), true) else .no
  | _, _ => .no
theorem splC_ne (c : Nat) (a : List Nat) : splC c a ≠ [] := by
  cases a with
  | nil => simp [splC]
  | cons x xs =>
    unfold splC
    split
    · simp
    · split <;> simp
theorem splC_hit {c x : Nat} {xs : List Nat} (e : x = c) : splC c (x :: xs) = [] :: splC c xs := by
  conv => lhs; unfold splC
  rw [if_pos e]
theorem splC_miss {c x : Nat} {xs : List Nat} (e : x ≠ c) : splC c (x :: xs) = match splC c xs with | [] => [[x]] | y :: ys => (x :: y) :: ys := by
  conv => lhs; unfold splC
  rw [if_neg e]
theorem pre1 (c x : Nat) (r : List Nat) : TL.pre [c] (x :: r) = decide (x = c) := by
  unfold TL.pre
  by_cases e : x = c
  · subst e; simp
  · simp [e]
theorem spl_C (c : Nat) : ∀ (a acc : List Nat), TL.spl [c] 0 acc a = match splC c a with | [] => [acc] | y :: ys => (acc ++ y) :: ys
  | [], acc => by rw [TL.spl_nil]; simp [splC]
  | x :: xs, acc => by
    by_cases e : x = c
    · rw [TL.spl_hit (by rw [pre1]; exact decide_eq_true e)]
      have h := spl_C c xs []
      show acc :: TL.spl [c] 0 [] xs = _
      rw [h, splC_hit e]
      cases z : splC c xs with
      | nil => exact absurd z (splC_ne c xs)
      | cons y ys => simp
    · rw [TL.spl_miss (by rw [pre1]; exact decide_eq_false e), spl_C c xs (acc ++ [x]), splC_miss e]
      cases z : splC c xs with
      | nil => exact absurd z (splC_ne c xs)
      | cons y ys => simp
theorem split_C {c : Nat} (hc : c < 256) (a : List Nat) : Txt.split (S a) (S [c]) = (splC c a).map S := by
  have h := SX.split_S (a := a) (b := [c]) (by simp) (by simp [hc])
  have e := spl_C c a []
  rw [e] at h
  cases z : splC c a with
  | nil => exact absurd z (splC_ne c a)
  | cons y ys =>
    rw [z] at h
    simp only [List.nil_append] at h
    exact h
theorem tl_S (a : List Nat) : TL.tl (S a) = a := by show a.toArray.toList = a; simp
theorem part_yes {c : Nat} {a : List Nat} (h : c ∈ a) : Txt.partition (S a) (S [c]) = (S (bef c a), S [c], S (beh c a)) := by
  have e : S a = S (bef c a) ++ S [c] ++ S (beh c a) := by
    conv => lhs; rw [bef_beh h]
    show (⟨(bef c a ++ c :: beh c a).toArray⟩ : Str) = ⟨(bef c a).toArray ++ [c].toArray ++ (beh c a).toArray⟩
    congr 1
    simp
  rw [e]
  exact TL.partition_app (s := c) (S := []) (tl_S _) (by rw [tl_S]; exact bef_no a)
theorem part_no {c : Nat} {a : List Nat} (h : c ∉ a) : Txt.partition (S a) (S [c]) = (S a, S [], S []) :=
  TL.partition_none (s := c) (S := []) (tl_S _) (by rw [tl_S]; exact h)
section
variable {X : Cx} {A : CT} {o e : Expr} {mo me : Ev} {apos pos : Pos}
theorem reps3 {K : PySem.W.Frag} {G : Hp} (a b c : List Nat) : Reps K A G [V.str (S a), V.str (S b), V.str (S c)] [D.str a, D.str b, D.str c] := .cons (.str _) (.cons (.str _) (.cons (.str _) .nil))
theorem reps_strsP {K : PySem.W.Frag} {G : Hp} : ∀ ys : List (List Nat), Reps K A G ((ys.map S).map V.str) (ys.map D.str)
  | [] => .nil
  | c :: ys => .cons (.str c) (reps_strsP ys)
theorem pd_partition (ho : PD A X o mo) (he : PD A X e me)
    (hx : ∀ {to te : TE}, PE X o to → PE X e te → PE X (.Call (.Attribute o "partition" apos) [e] [] pos) (tM1 (fun x xs H Q => ∃ a b, x = .str a ∧ xs = [.str b] ∧ (b.length == 0) = false ∧ a.length ≤ sizeLine ∧
      ∀ p, H p = none → Q (.ref p) (upd H p (.tup [.str (Txt.partition a b).1, .str (Txt.partition a b).2.1, .str (Txt.partition a b).2.2]))) to te)) :
    PD A X (.Call (.Attribute o "partition" apos) [e] [] pos) (eBin partD mo me) := PE.imp (hx ho he) fun σ H Q q => by
  obtain ⟨G, ρ, r, ρ', s, e, k⟩ := q
  obtain ⟨⟨d1, ρ1⟩, e1, ea⟩ := bind_ok e
  obtain ⟨⟨d2, ρ2⟩, e2, eb⟩ := bind_ok ea
  obtain ⟨r', e3, ec⟩ := bind_ok eb
  clear e ea eb
  cases ec
  unfold partD at e3
  split at e3
  · rename_i a c
    split at e3
    · rename_i hl
      refine use_val s e1 fun v G1 H1 n1 r1 => ?_
      cases r1
      refine ⟨⟨_, rfl⟩, use_val n1.st e2 fun w G2 H2 n2 r2 => ?_⟩
      cases r2
      refine ⟨_, _, rfl, rfl, rfl, by show a.toArray.size ≤ _; rw [List.size_toArray, sizeLine_eq]; omega, fun p hp => ?_⟩
      split at e3
      · rename_i hc
        cases e3
        rw [part_yes hc]
        obtain ⟨n0, rr⟩ := new_key (K := X.K) (A := A) n2.st.sub hp (reps3 (bef c a) [c] (beh c a))
        exact end_of (n1.trans n2) k _ _ _ n0 (RepR.of rr)
      · rename_i hc
        cases e3
        rw [part_no hc]
        obtain ⟨n0, rr⟩ := new_key (K := X.K) (A := A) n2.st.sub hp (reps3 a [] [])
        exact end_of (n1.trans n2) k _ _ _ n0 (RepR.of rr)
    · cases e3
  · cases e3
/-! int(text) -/
def valN : List Nat → Nat := NumText.digitsVal
def isDg (l : List Nat) : Bool := l.all (fun c => decide (48 ≤ c) && decide (c ≤ 57)) && !l.isEmpty
/-- the number that a text writes, a sign ahead of it or none -/
def numT : List Nat → Option Int
  | 45 :: l => if isDg l then some (-(valN l : Int)) else none
  | l => if isDg l then some (valN l : Int) else none
def intSD : List D → R Rv
  | [.str a] => if a.length ≤ 600 then (match numT a with | some n => int_ n | none => .no) else .no
  | ds => intD ds
theorem allDg {l : List Nat} (h : isDg l = true) : NumText.AllDigits l ∧ l ≠ [] := by
  unfold isDg at h
  rw [Bool.and_eq_true] at h
  refine ⟨fun c hc => ?_, fun e => by subst e; simp at h⟩
  have := List.all_eq_true.mp h.1 c hc
  simpa using this
theorem numT_ok {a : List Nat} {n : Int} (hl : a.length ≤ 600) (h : numT a = some n) : PySem.intText? (S a) = some n := by
  have sz : (S a).length ≤ 4300 := by show a.toArray.size ≤ _; simp; omega
  unfold numT at h
  split at h
  · rename_i l
    split at h
    · rename_i hd
      cases h
      obtain ⟨h1, h2⟩ := allDg hd
      exact PySem.intText_neg (cs := l) (by show (45 :: l).toArray.toList = _; simp) h1 h2 sz
    · cases h
  · split at h
    · rename_i hd
      cases h
      obtain ⟨h1, h2⟩ := allDg hd
      have e : (S a).cps.toList = a := by show a.toArray.toList = _; simp
      have := PySem.intText_digits (x := S a) (by rw [e]; exact h1) (by rw [e]; exact h2) sz
      rw [e] at this
      exact this
    · cases h
theorem o_intS : CallR X (.type "int") (rDn X.K A intSD) := by
  intro pins s σ H xs us Q I r h
  obtain ⟨G, ds, r0, sb, rs, e, k⟩ := h
  by_cases z : ∃ ys, ds = [.str ys]
  · obtain ⟨ys, rfl⟩ := z
    obtain ⟨v1, rfl, r1⟩ := rs.inv1
    cases r1
    unfold intSD at e
    dsimp only at e
    split at e
    · rename_i hl
      split at e
      · rename_i n hn
        cases e
        exact call_int_str pins s σ H _ us Q I r ⟨_, _, rfl, numT_ok hl hn, by show ys.toArray.size ≤ _; simp; omega, same_end sb (.int _) k⟩
      · cases e
    · cases e
  · have e2 : intSD ds = intD ds := by
      unfold intSD
      split
      · exact absurd ⟨_, rfl⟩ z
      · rfl
    rw [e2] at e
    exact o_int pins s σ H xs us Q I r ⟨G, ds, r0, sb, rs, e, k⟩
end
end DY

set_option Elab.async false
set_option linter.all false
set_option maxRecDepth 100000
set_option maxHeartbeats 4000000
/-! SLTk: readings that may count on a token that is out; str.replace of written texts, with a count -/
namespace SL
open PySem L2 PySem.Spec PyProof.Rows
section
variable {X : Cx} {e a b f : Expr} {st : Stmt} {rest sa sb : List Stmt} {te ta tb : TE} {t u v : TS} {tt : TT} {pos : Pos}
theorem tk_of {α : Type} {m : Sem α} {M : Model} {A : Around} {Q : α → Shared → Prop} {E : Value → Shared → Prop} {s : Shared} (out : 1 ≤ s.toks) (h : wpAny M A m Q E s) : wpAny M A m (fun a s' => 1 ≤ s'.toks ∧ Q a s') E s :=
  wpAny_mono (PySem.wpAny_toks_of out h) (fun _ _ z => z) fun _ _ z => z.2
/-- as PE, and behind it a token is out -/
def PEk (X : Cx) (e : Expr) (t : TE) : Prop :=
  ∀ (pins : List (Addr × Obj)) (s : Shared) (σ : L2.St) (H : Hp) (Q : VK), Inv X pins σ H s → t σ H Q → wpAny (model X.prog X.w) X.A (eval e X.env) (fun u s' => 1 ≤ s'.toks ∧ EP X pins σ Q u s') X.xe s
def PSk (X : Cx) (st : Stmt) (t : TS) : Prop :=
  ∀ (pins : List (Addr × Obj)) (s : Shared) (σ : L2.St) (H : Hp) (D : Ends), Inv X pins σ H s → t D σ H → wpAny (model X.prog X.w) X.A (exec st X.env) (fun u s' => 1 ≤ s'.toks ∧ SP X pins D u s') X.xe s
/-- a test, one token out -/
def PTT (X : Cx) (e : Expr) (t : TT) : Prop :=
  ∀ (pins : List (Addr × Obj)) (s : Shared) (σ : L2.St) (H : Hp) (Q : Bool → Hp → Prop), 1 ≤ s.toks → Inv X pins σ H s → t σ H Q → wpAny (model X.prog X.w) X.A (isTrue e X.env (eval e X.env)) (TP X pins σ Q) X.xe s
theorem PEk.imp {t' : TE} (h : PEk X e te) (i : ∀ σ H Q, t' σ H Q → te σ H Q) : PEk X e t' := fun pins s σ H Q I q => h pins s σ H Q I (i σ H Q q)
theorem PSk.imp {t' : TS} (h : PSk X st t) (i : ∀ D σ H, t' D σ H → t D σ H) : PSk X st t' := fun pins s σ H D I q => h pins s σ H D I (i D σ H q)
theorem PTT.imp {t t' : TT} (h : PTT X e t) (i : ∀ σ H Q, t' σ H Q → t σ H Q) : PTT X e t' := fun pins s σ H Q k I q => h pins s σ H Q k I (i σ H Q q)
theorem PET.imp {t' : TE} (h : PET X e te) (i : ∀ σ H Q, t' σ H Q → te σ H Q) : PET X e t' := fun pins s σ H Q k I q => h pins s σ H Q k I (i σ H Q q)
theorem PST.imp {t' : TS} (h : PST X st t) (i : ∀ D σ H, t' D σ H → t D σ H) : PST X st t' := fun pins s σ H D k I q => h pins s σ H D k I (i D σ H q)
theorem PSsT.imp {t' : TS} (h : PSsT X rest t) (i : ∀ D σ H, t' D σ H → t D σ H) : PSsT X rest t' := fun pins s σ H D k I q => h pins s σ H D k I (i D σ H q)
/-- the first statement lets a token out, the others may count on one -/
theorem pss_tok (h1 : PSk X st t) (h2 : PSsT X rest u) : PSs X (st :: rest) (tSeq t u) := by
  refine ⟨fun pins s σ H D I q => ?_⟩
  refine wpAny_execs_cons (thn (h1 pins s σ H { D with nx := u D } I q) fun fl s' ⟨out, p⟩ => ?_)
  match fl, p with
  | .next, p =>
    obtain ⟨τ, H', I', z⟩ := p
    exact h2 pins s' τ H' D out I' z
  | .ret _, p => exact p
  | .brk, p => exact p
  | .cont, p => exact p
theorem psk_set {i : Nat} {x : Str} {xp : Pos} (nd : X.N.Nodup) (at_ : X.N[i]? = some x) (lx : Loc X.env.scope x) (he : PEk X e te) (hs : swapsWith e (some (.Name x xp)) pos.line X.env = pure false := by rfl)
    (hf : X.fn x = true ∨ X.env.scope.names.lookup x = some .local := by first | exact .inl rfl | exact .inr rfl | assumption) : PSk X (.Assign [.Name x xp] e pos) (tAsg te (gName i)) := by
  intro pins s σ H D I q
  refine wpAny_Assign_Name (thn (he pins s σ H _ I q) fun u s' ⟨out, y, H', I', r, z⟩ => ?_) hs
  exact tk_of out (store_ok I' nd at_ lx r (fun s2 I2 => ⟨_, H', I2, z⟩) hf)
/-- o.name(written text): a token is out behind the call -/
theorem pek_m1 {id : String} {name : Str} {o : Expr} {to : TE} {r : V → List V → Hp → VK → Prop} {c : Str} {j : Nat} {cp apos : Pos} (slot : Slot "str" name id) (ty : typeOf (.builtin id) = pure (.type "method_descriptor")) (rule : MtR X id r) (ho : PE X o to)
    (hs : starEach [.Constant (.str c) j cp] X.env = [(false, eval (.Constant (.str c) j cp) X.env)] := by rfl) (hb : attributeBase o name X.env (eval o X.env) = eval o X.env := by rfl) (hl : (apos.endLine == pos.line) = true := by rfl) :
    PEk X (.Call (.Attribute o name apos) [.Constant (.str c) j cp] [] pos) (tM1 r to (tC (.str c))) := by
  intro pins s σ H Q I q
  refine PySem.Call_method1 hb hs hl (thn (ho.run pins s σ H _ I q) fun u s' ⟨x, H', I', rx, p⟩ => ?_)
  obtain ⟨⟨y, rfl⟩, p⟩ := p
  obtain ⟨k, rfl⟩ := _root_.id rx
  refine ⟨"str", _, PySem.F.plainAttrs_str, slot, ty, typeIs_str _ _ _, (fun _ z => nomatch z), Calls.callWith_builtin rfl (Calls.evalArgs_plain (Calls.spliced_cons (Calls.Constant_str (Calls.spliced_nil ?_))))⟩
  exact tk_of (show 1 ≤ s'.toks + 1 by omega) (rule pins { s' with toks := s'.toks + 1 } σ H' _ [.str c] _ [_] Q (I'.tok _) rx (.cons ⟨_, rfl⟩ .nil) p)
theorem pst_if' (hc : PTT X a tt) (ha : PSsT X sa t) (hb : PSsT X sb u) : PST X (.If a sa sb pos) (tIfS tt t u) := by
  intro pins s σ H D out I q
  refine wpAny_If (thn (tk_of out (hc pins s σ H _ out I q)) fun d s' p => ?_)
  obtain ⟨out', H', I', p⟩ := p
  cases d
  · exact hb pins s' σ H' D out' I' p
  · exact ha pins s' σ H' D out' I' p
theorem ptt_cmp {op : CmpOp} {r : R2} (ho : OpR X (compareOp op) r) (ha : PET X a ta) (hb : PE X b tb) (hm : behindInMarks op b = false) : PTT X (.Compare a [op] [b] pos) (tTest (tOp r ta tb)) := by
  intro pins s σ H Q out I q
  refine wpAny_isTrue_Compare1 (thn (ha pins s σ H _ out I q) fun v1 s1 ⟨x, H1, I1, r1, p⟩ => thn (hb.run pins s1 σ H1 _ I1 p) fun v2 s2 ⟨y, H2, I2, r2, p⟩ => thn (ho pins s2 σ H2 x y v1 v2 _ I2 r1 r2 p) fun v3 s3 h3 => ?_) hm
  obtain ⟨z, H3, I3, r3, k, rfl, p⟩ := h3
  cases r3
  exact wpAny_truthy_bool ⟨H3, I3, p⟩
theorem pit_str {tg : Expr} (he : PET X e te) : PIT X tg e (iStr te) := by
  intro pins s σ H R out I q
  refine thn (he pins s σ H _ out I q) fun u s' ⟨y, H', I', r, x, ey, p⟩ => ?_
  subst ey
  obtain ⟨k, rfl⟩ := r
  by_cases hx : x.cps.all (· < 128) = true
  · exact wpAny_pyIter_ascii hx (pi_one (tk := s'.toks) I' _ (turn_str _ x k "str_ascii_iterator" (.inl rfl)) ⟨_, Heap.get?_push_size _ rfl, rfl, rfl⟩ p)
  · exact wpAny_pyIter_wide (by simpa using hx) (pi_one (tk := s'.toks) I' _ (turn_str _ x k "str_iterator" (.inr rfl)) ⟨_, Heap.get?_push_size _ rfl, rfl, rfl⟩ p)
end
end SL

set_option Elab.async false
set_option linter.all false
set_option maxRecDepth 100000
set_option maxHeartbeats 4000000
/-! SLTk3: loops and list displays that may count on a token -/
namespace SL
open PySem L2 PySem.Spec PyProof.Rows
section
variable {X : Cx}
/-- a for whose body may count on a token -/
theorem pst_forT {tg it0 : Expr} {body : List Stmt} {wi : TI} {g : TG} {tb : TS} {pos : Pos} (own : PassesOwn (model X.prog X.w) X.A X.env X.xe) (calm : X.calm = true) (hi : PIT X tg it0 wi) (hg : PG X tg g) (hb : PSsT X body tb)
    (fold : ∀ x, foldedSetIterable it0 X.env x = pure x := by intro _; rfl) : PST X (.For tg it0 body [] pos) (tFor wi g tb) := by
  intro pins s0 τ0 H0 D out0 I0 rd
  refine wpAny_For (thn (tk_of out0 (hi pins s0 τ0 H0 _ out0 I0 rd)) fun v sa ⟨outa, ha⟩ => thn (tk_of outa ha) fun itv sb ⟨outb, hb2⟩ => ?_) fold
  obtain ⟨q, fp, tn, J, H1, rfl, I1, T, st, fr, W, ⟨k0, wz⟩, turn⟩ := hb2
  have clear : ∀ {K : Hp}, (∀ z ∈ fp, K z = none) → ∀ z ∈ fp, FpOk X pins K z := fun nn z hz => ⟨nn z hz, (fr z hz).2⟩
  let Iv : Nat → Shared → Prop := fun k sh => 1 ≤ sh.toks ∧ ∃ i τ K, Inv X pins τ K sh ∧ tn i sh.heap ∧ (∀ z ∈ fp, K z = none) ∧ W i k τ K
  refine codeAny_forLoop_any Iv ?_ k0 ⟨outb, 0, τ0, H1, I1, st, fun z hz => (fr z hz).1, wz⟩
  rintro k sc ⟨outc, i, τ, K, Ic, stc, frc, wc⟩
  rcases turn i k τ K wc with ⟨halt, e0⟩ | ⟨go, N, less, step⟩
  · have fin := T.done X rfl rfl rfl calm i pins sc τ K X.xe Ic (clear frc) stc halt
    refine wpAny_passesOwn own (thn fin fun r sd ⟨hr, Id⟩ => ?_)
    subst hr
    exact wpAny_execs_nil ⟨τ, K, Id, e0⟩
  · have nxt := T.item X rfl rfl rfl calm i pins sc τ K X.xe Ic (clear frc) stc go
    refine wpAny_passesOwn own (thn (tk_of outc nxt) fun r sd ⟨outd, u, hr, hd⟩ => ?_)
    subst hr
    refine wpAny_passesOwn own (thn (tk_of outd hd) fun _ se ⟨oute, x, K2, Ie, re, ye, ste, fre⟩ => ?_)
    have Ip := Ie.pinned (clear fre) (T.obj _ _ ste)
    have named := hg.run (pins ++ pinsAt fp se.heap) se τ K2 x u _ Ip re (step x K2 ye)
    refine wpAny_passesOwn own (thn (tk_of oute named) fun _ sf ⟨outf, τf, Kf, If, pf⟩ => ?_)
    have ran := hb (pins ++ pinsAt fp se.heap) sf τf Kf _ outf If pf
    refine wpAny_passesOwn own (thn (tk_of outf ran) fun fl sg ⟨outg, pg⟩ => ?_)
    have back : ∀ {τ' : L2.St} {K' : Hp}, Inv X (pins ++ pinsAt fp se.heap) τ' K' sg → N τ' K' → ∃ m, m < k ∧ Iv m sg := fun {τ' K'} I' n' => by
      obtain ⟨m, lt, w'⟩ := less τ' K' n'
      have stay : ∀ z ∈ fp, ∀ o, se.heap.get? z = some o → sg.heap.get? z = some o ∧ K' z = none := fun z hz o eo =>
        have pz := I'.pin (z, o) (List.mem_append_right _ (List.mem_append_right _ (mem_pinsAt hz eo)))
        ⟨pz.1, pz.2.1⟩
      refine ⟨m, lt, outg, i + 1, τ', K', I'.unpinned, T.keep _ _ _ ste fun z hz o eo => (stay z hz o eo).1, fun z hz => ?_, w'⟩
      obtain ⟨o, eo, _⟩ := T.obj _ _ ste z hz
      exact (stay z hz o eo).2
    match fl, pg with
    | .next, ⟨_, _, I', n'⟩ => exact back I' n'
    | .cont, ⟨_, _, I', n'⟩ => exact back I' n'
    | .brk, ⟨τ', K', I', z⟩ => exact ⟨τ', K', I'.unpinned, z⟩
    | .ret _, ⟨y, τ', K', I', r', z⟩ => exact ⟨y, τ', K', I'.unpinned, r', z⟩
end
section
variable {X : Cx}
/-- [elt for tg in it0 if ..] where it0 may count on a token -/
theorem pet_lcT {elt tg it0 : Expr} {ifs : List Expr} {scope : Scope} {own : List (Str × Nat)} {pos : Pos} {wi : TI} {g : TG} {tt : TT} {te : TE} (calm : X.calm = true) (nd : X.N.Nodup) (hi : PIT X tg it0 wi) (bk : BlkOk X.N X.env.scope scope own)
    (hg : ∀ (z : Shared) (K : Hp) (C : Addr) (cl : List (Str × Addr)) (fp : List Addr), PG (X.blk z K scope (compEnvC scope cl C X.env) fp) tg g)
    (ht : ∀ (z : Shared) (K : Hp) (C : Addr) (cl : List (Str × Addr)) (fp : List Addr), PTs (X.blk z K scope (compEnvC scope cl C X.env) fp) ifs tt)
    (hm : ∀ (z : Shared) (K : Hp) (C : Addr) (cl : List (Str × Addr)) (fp : List Addr), PE (X.blk z K scope (compEnvC scope cl C X.env) fp) elt te)
    (fold : ∀ x, foldedSetIterable it0 X.env x = pure x := by intro _; rfl) : PET X (.ListComp elt [⟨tg, it0, ifs, 0⟩] scope pos) (tLc wi g tt te (own.map (·.2))) := by
  intro pins s0 τ H0 Q out0 I0 rd
  rw [eval_ListComp]
  have fre : ∀ y ∈ scope.names, y.2 = .free → ∃ c, X.env.cells.lookup y.1 = some c := fun y hy e => I0.ok.has _ (by rcases bk.free y hy e with k | k; exact .inl k; exact .inr k)
  refine wpAny_comprehension_free (use := none) rfl fold (closure_ok fre) bk.kind (fun y hy e => by rw [bk.uniq y hy, e]) (thn (hi pins s0 τ H0 _ out0 I0 rd) fun v sa ha => thn ha fun itv sb hb => ?_)
  obtain ⟨q, fp, tn, J, H1, rfl, I1, T, st, fr, more⟩ := hb
  refine wpAny_newObj_type (newEnv_comp ?_) (by show 0 ≤ sizeLine; decide)
  have hz : ∃ D, sb.heap.objs.size = D := ⟨_, rfl⟩
  obtain ⟨D, hD⟩ := hz
  have Dn : H1 D = none := I1.hok.fresh (Nat.le_of_eq hD)
  obtain ⟨W, ⟨k0, wz⟩, turn⟩ := more D Dn
  -- with the new list
  obtain ⟨sc, hsc⟩ : ∃ sc : Shared, ({ sb with heap := sb.heap.push { cls := .type "list", data := .seq ([] : List Value).toArray } } : Shared) = sc := ⟨_, rfl⟩
  rw [hD, hsc]
  have hc : sc.heap = sb.heap.push { cls := .type "list", data := .seq ([] : List Value).toArray } := by rw [← hsc]
  have Ic : Inv X pins τ (upd H1 D (.lst [])) sc := by
    have := I1.laid (t' := sb.toks) (h' := sb.heap.push { cls := .type "list", data := .seq ([] : List Value).toArray }) (a := D) (o := .lst []) (fun b o e => Heap.get?_push_of_some _ e) (Nat.le_of_eq hD) ⟨Nat.zero_le _, [], 0, .nil, by rw [← hD]; exact Heap.get?_push_size _ rfl⟩
    rw [← hsc]; exact this
  have low : ∀ b ∈ fp, b < sb.heap.objs.size := fun b hb => by
    obtain ⟨o, e, _⟩ := T.obj _ _ st b hb
    exact Heap.lt_size e
  have fpc : ∀ b ∈ fp, FpOk X pins (upd H1 D (.lst [])) b ∧ b < sc.heap.objs.size := fun b hb => by
    have lt := low b hb
    have nb : b ≠ D := by rw [← hD]; exact Nat.ne_of_lt lt
    refine ⟨⟨(upd_ne nb).trans (fr b hb).1, (fr b hb).2⟩, ?_⟩
    rw [hc, Heap.size_push]; exact Nat.lt_succ_of_lt lt
  have stc : tn 0 sc.heap := T.keep _ _ _ st fun b _ o e => by rw [hc]; exact Heap.get?_push_of_some _ e
  have Id := block_start Ic bk nd fpc
  obtain ⟨cl, hcl⟩ : ∃ cl, cellsFrom (sc.heap.objs.size + 1) scope.names (cloFrom X.env.cells scope.names []) = cl := ⟨_, rfl⟩
  obtain ⟨C, hC⟩ : ∃ C, sc.heap.objs.size = C := ⟨_, rfl⟩
  obtain ⟨H2, hH2⟩ : ∃ K, upd H1 D (.lst []) = K := ⟨_, rfl⟩
  have Cn : C = (compEnvC scope cl C X.env).locals := rfl
  obtain ⟨ce, hce⟩ : ∃ ce, compEnvC scope cl C X.env = ce := ⟨_, rfl⟩
  show codeAny _ _ (.compStart (.ListComp elt [⟨tg, it0, ifs, 0⟩] scope pos) 0 (.ref q) (.ref D) (compEnvC scope (cellsFrom (sc.heap.objs.size + 1) scope.names (cloFrom X.env.cells scope.names [])) sc.heap.objs.size X.env)) (compPost (model X.prog X.w) X.A X.xe none (EP X pins τ Q) (.ref D) sc.heap.objs.size) _
  have gg := hg sc H2 C cl fp
  have gt := ht sc H2 C cl fp
  have gm := hm sc H2 C cl fp
  obtain ⟨sd, hsd⟩ : ∃ sd : Shared, ({ sc with heap := pushCells (sc.heap.push { cls := .type "dict", data := .dict #[] }) scope.names } : Shared) = sd := ⟨_, rfl⟩
  rw [hcl, hC, hsd, hH2] at Id
  rw [hcl, hC, hsd]
  rw [hce] at Id gg gt gm Cn ⊢
  rw [hH2] at Ic fpc wz
  have nofp : ∀ b ∈ fp, H2 b = none := fun b hb => (fpc b hb).1.1
  have std : tn 0 sd.heap := T.keep _ _ _ stc fun b hb o e => by rw [← hsd]; exact pushCells_keeps _ _ _ _ (Heap.get?_push_of_some _ e)
  have clear : ∀ {τ' : L2.St} {K : Hp} {z : Shared}, Inv (X.blk sc H2 scope ce fp) [] τ' K z → (∀ b ∈ fp, K b = none) → ∀ b ∈ fp, FpOk (X.blk sc H2 scope ce fp) [] K b := fun {τ' K z} I' nn b hb =>
    ⟨nn b hb, (I'.ok.exf b hb).1, I'.ok.exfs b hb, .inl hb, fun x c e => (I'.ok.exf b hb).2 x c e, fun p hp => by cases (show p ∈ ([] : List (Addr × Obj)) from hp)⟩
  have loop : codeAny (model X.prog X.w) X.A (.compLoop (.ListComp elt [⟨tg, it0, ifs, 0⟩] scope pos) 0 (.ref q) (.ref D) ce) (compPost (model X.prog X.w) X.A X.xe none (EP X pins τ Q) (.ref D) C) sd := by
    refine compLoop_any (fun k z => ∃ i K, Inv (X.blk sc H2 scope ce fp) [] (wipe τ (own.map (·.2))) K z ∧ tn i z.heap ∧ (∀ b ∈ fp, K b = none) ∧ W i k K) ?_ k0 ⟨0, H2, Id, std, nofp, wz⟩
    rintro k se ⟨i, K, Ie, ste, ne, we⟩
    rcases turn i k K we with ⟨halt, qq⟩ | ⟨go, Nx, less, step⟩
    · have fin := T.done (X.blk sc H2 scope ce fp) rfl rfl rfl calm i [] se _ K (fun _ _ => False) Ie (clear Ie ne) ste halt
      refine thnF fin fun r sf ⟨hr, If⟩ => ?_
      subst hr
      have Ig : Inv X pins τ K sf := Ic.call' (ch := fp) If.os If.base If.hok If.bare fun b hb =>
        have z := (fpc b hb).1
        ⟨z.2.2.2.1, z.2.1, z.2.2.2.2.1, z.2.2.2.2.2⟩
      have nC : K C = none := by rw [Cn]; exact If.free
      obtain ⟨m, hn, _⟩ := If.loc
      have hn' : sf.heap.Ns C m := by rw [Cn]; exact hn
      obtain ⟨f0, f1, f2, f3, f4, f5⟩ := Ic.fpOk (Nat.le_of_eq hC) nC
      refine ⟨m, hn', fun h'' sb' => ?_⟩
      exact ⟨.ref D, K, Ig.turned (t' := sf.toks) (fun b o hb e => (sb'.2 b hb).trans e) f0 f1 f3 f4 f5, rfl, qq⟩
    · have nxt := T.item (X.blk sc H2 scope ce fp) rfl rfl rfl calm i [] se _ K (fun _ _ => False) Ie (clear Ie ne) ste go
      refine thnF nxt fun r sf ⟨u, hr, hf⟩ => ?_
      subst hr
      refine thnF hf fun _ sg ⟨x, K7, I7, r7, y7, st7, n7⟩ => ?_
      have Ip := I7.pinned (clear I7 n7) (T.obj _ _ st7)
      refine thnF (gg.run _ sg _ K7 x u _ Ip r7 (step x K7 y7)) fun _ sh ⟨τ8, K8, I8, w8, q8⟩ => ?_
      refine thnF (gt.run _ sh τ8 K8 _ I8 q8) fun b si ⟨K9, I9, q9⟩ => ?_
      have fin : ∀ {z : Shared} {K' : Hp}, Inv (X.blk sc H2 scope ce fp) ([] ++ pinsAt fp sg.heap) τ8 K' z → Nx K' → ∃ m, m < k ∧ ∃ i K, Inv (X.blk sc H2 scope ce fp) [] (wipe τ (own.map (·.2))) K z ∧ tn i z.heap ∧ (∀ b ∈ fp, K b = none) ∧ W i m K := fun {z K'} I' nx => by
        obtain ⟨m, lt, w'⟩ := less K' nx
        have stay : ∀ b ∈ fp, ∀ o, sg.heap.get? b = some o → z.heap.get? b = some o ∧ K' b = none := fun b hb o eo =>
          have pz := I'.pin (b, o) (List.mem_append_right _ (List.mem_append_right _ (mem_pinsAt hb eo)))
          ⟨pz.1, pz.2.1⟩
        have len : (wipe τ (own.map (·.2))).length = τ8.length := by rw [← w8, wipe_length]
        refine ⟨m, lt, i + 1, K', (I'.unpinned (pins := [])).weak len (fun j v e => (wipe_some (by rw [w8]; exact e)).1), T.keep _ _ _ st7 fun b hb o eo => (stay b hb o eo).1, fun b hb => ?_, w'⟩
        obtain ⟨o, eo, _⟩ := T.obj _ _ st7 b hb
        exact (stay b hb o eo).2
      match b, q9 with
      | false, q9 => exact fin I9 (by simpa using q9)
      | true, q9 =>
        have q9' := q9
        simp only [if_true] at q9'
        simp only [if_true]
        refine thnF (gm.run _ si τ8 K9 _ I9 q9') fun z sj ⟨yv, K10, I10, r10, acc, hD10, hz10, nx⟩ => ?_
        exact app_ok (X := X.blk sc H2 scope ce fp) I10 hD10 hz10 r10 fun sk I11 => fin I11 nx
  exact codeAny_compStart_list loop (T.self X.A 0 _ _ _ std loop)
end
end SL

set_option Elab.async false
set_option linter.all false
set_option maxRecDepth 100000
set_option maxHeartbeats 4000000
/-! str.replace(sign, "", 1) -/
namespace DY
open PySem L2 PySem.Spec PyProof.Rows
open PySem.Builtin PySem.Builtin.Str
variable [Tb]
/-- without the first sign c -/
def cutO (c : Nat) (a : List Nat) : List Nat := if c ∈ a then bef c a ++ beh c a else a
theorem cutO_occ {c : Nat} {a : List Nat} (h : c ∈ a) : ∃ i, occurrences (S a) (S [c]) 0 (S a).length 1 = [i] ∧ glued (S []) (partsBetween (S a) [i] (S [c]).length) = S (bef c a ++ beh c a) := by
  have p := part_yes h
  have n : (occurrences (S a) (S [c]) 0 (S a).length 1).isEmpty = false := by
    have := StrLaws.found_one (S a) c
    rw [show (S a).cps.toList = a from tl_S a, decide_eq_true h] at this
    have e : (S [c]) = (⟨#[c]⟩ : Str) := rfl
    rw [e]
    simpa using this
  have l := StrLaws.occ_length_le (S a) (S [c]) 0 (S a).length 1
  match z : occurrences (S a) (S [c]) 0 (S a).length 1 with
  | [] => rw [z] at n; cases n
  | [i] =>
    refine ⟨i, rfl, ?_⟩
    unfold Txt.partition at p
    rw [z] at p
    dsimp only at p
    have p1 : strSub (S a) 0 i = S (bef c a) := (Prod.mk.inj p).1
    have p2 : strSub (S a) (i + (S [c]).length) (S a).length = S (beh c a) := (Prod.mk.inj (Prod.mk.inj p).2).2
    show (⟨((S []).cps |> fun g => ((strSub (S a) 0 i).cps ++ g ++ (strSub (S a) (i + (S [c]).length) (S a).length).cps))⟩ : Str) = _
    rw [p1, p2]
    show (⟨(bef c a).toArray ++ ([] : List Nat).toArray ++ (beh c a).toArray⟩ : Str) = ⟨(bef c a ++ beh c a).toArray⟩
    simp
  | i :: j :: r => rw [z] at l; simp at l
theorem gives_repl1 (x y z : Str) (t u v k : Tok) (hu : (u == 0 || v == 0) = false) (huv : (u == v) = false) (hyz : (y == z) = false) (hy : (y.length == 0) = false) (hl : tooLong (x.length + (occurrences x y 0 x.length 1).length * z.length) = false) :
    Gives («str.replace» ⟨[.str x t, .str y u, .str z v, .int 1 k], []⟩) (if (occurrences x y 0 x.length 1).isEmpty = true then .val (.str x t) else .str (glued z (partsBetween x (occurrences x y 0 x.length 1) y.length))) := by
  show Gives (if ((occurrences x y 0 x.length 1).isEmpty || (y.length == 0 && z.length == 0)) = true then (do rule "str.replace.nothing"; ret (.str x t)) else
    (do if (← isSame (.str y u) (.str z v)) = true then (do rule "str.replace.old-is-new"; ret (.str x t)) else
          if tooLong (x.length + (occurrences x y 0 x.length 1).length * z.length) = true then unsupported "str.replace:memory" else retStr (glued z (partsBetween x (occurrences x y 0 x.length 1) y.length)))) _
  rw [hy, Bool.false_and, Bool.or_false]
  cases (occurrences x y 0 x.length 1).isEmpty with
  | true => exact .rule (.of_eq rfl)
  | false =>
    rw [isSame_str_other y z u v hu huv hyz, hl]
    exact .of_eq rfl
section
variable {prog : Program} {w : World} {A : Around} {E : Value → Shared → Prop} {s : Shared} {Q : Value → Shared → Prop}
theorem cutO_len {c : Nat} {a : List Nat} : (cutO c a).length ≤ a.length := by
  unfold cutO
  split
  · rename_i h
    have e := congrArg List.length (bef_beh h)
    simp only [List.length_append, List.length_cons] at *
    omega
  · exact Nat.le_refl _
theorem call_repl1 {c : Nat} {a : List Nat} {t u v k : Tok} (hl : a.length ≤ 100000) (hu : u ≠ 0) (hv : v ≠ 0) (huv : u ≠ v) (hq : ∀ t' k', Q (.str (S (cutO c a)) t') { s with toks := k' }) :
    wpAny (model prog w) A (call (.builtin "str.replace") [.str (S a) t, .str (S [c]) u, .str (S []) v, .int 1 k]) Q E s := by
  have sz : (S a).length = a.length := by show a.toArray.size = _; simp
  have z0 : (S []).length = 0 := rfl
  have tl : tooLong ((S a).length + (occurrences (S a) (S [c]) 0 (S a).length 1).length * (S []).length) = false := by
    rw [z0, Nat.mul_zero, Nat.add_zero, sz]
    unfold tooLong
    rw [sizeLine_eq]
    exact decide_eq_false (by omega)
  refine call_gives PySem.F.slot_str_replace (typeIs_str _ _ _) PySem.F.entry_str_replace (PySem.F.args_str_replace_4 _ _ _ _) (gives_repl1 (S a) (S [c]) (S []) t u v k (by simp [hu, hv]) (by simp [huv]) (beq_eq_false_iff_ne.mpr fun h => by have := congrArg (fun z : Str => z.cps.size) h; exact absurd (show 1 = 0 from this) (by decide)) (by rfl) tl) ?_
  by_cases h : c ∈ a
  · obtain ⟨i, e1, e2⟩ := cutO_occ h
    have hq' := hq
    unfold cutO at hq'
    rw [if_pos h] at hq'
    rw [e1]
    rw [if_neg (by simp), e2]
    refine ⟨?_, hq' _ _⟩
    show (bef c a ++ beh c a).toArray.size ≤ sizeLine
    have e := congrArg List.length (bef_beh h)
    simp only [List.length_append, List.length_cons] at e
    rw [sizeLine_eq]
    simp
    omega
  · have n : (occurrences (S a) (S [c]) 0 (S a).length 1).isEmpty = true := by
      have := StrLaws.found_one (S a) c
      rw [show (S a).cps.toList = a from tl_S a, decide_eq_false h] at this
      have e : (S [c]) = (⟨#[c]⟩ : Str) := rfl
      rw [e]
      simpa using this
    have hq' := hq
    unfold cutO at hq'
    rw [if_neg h] at hq'
    rw [if_pos n]
    exact hq' t s.toks
end
section
variable {X : Cx} {o : Expr} {to : TE} {y z : Str} {c : Nat} {j k l : Nat} {c0 c1 c2 apos pos : Pos}
def tRep1 (to : TE) (c : Nat) : TE := fun σ H Q => to σ H fun v H1 => ∃ a : List Nat, v = .str (S a) ∧ a.length ≤ 100000 ∧ Q (.str (S (cutO c a))) H1
theorem pet_repl1 (ho : PE X o to) (hy : y = S [c] := by rfl) (hz : z = S [] := by rfl)
    (hst : starEach [.Constant (.str y) j c0, .Constant (.str z) k c1, .Constant (.int 1) l c2] X.env = [(false, eval (.Constant (.str y) j c0) X.env), (false, eval (.Constant (.str z) k c1) X.env), (false, eval (.Constant (.int 1) l c2) X.env)] := by rfl)
    (hb : attributeBase o "replace" X.env (eval o X.env) = eval o X.env := by rfl) (hl : (apos.endLine == pos.line) = true := by rfl) :
    PET X (.Call (.Attribute o "replace" apos) [.Constant (.str y) j c0, .Constant (.str z) k c1, .Constant (.int 1) l c2] [] pos) (tRep1 to c) := by
  subst hy hz
  intro pins s σ H Q out I q
  refine wpAny_Call_method_lateS hb (by rw [hst]; rfl) hl ?_
  rw [hst]
  refine thn (SL.tk_of out (ho.run pins s σ H _ I q)) fun u s' ⟨out', x, H', I', rx, a, ex, hla, p⟩ => ?_
  subst ex
  obtain ⟨t, rfl⟩ := rx
  refine ⟨"str", _, PySem.F.plainAttrs_str, PySem.F.slot_str_replace, PySem.F.type_str_replace, typeIs_str _ _ _, (fun _ z => nomatch z), Calls.callWith_builtin rfl (Calls.evalArgs_plain (Calls.spliced_cons ?_))⟩
  refine Calls.Constant_str (k := j) (pos := c0) (Calls.spliced_cons ?_)
  refine Calls.Constant_str (k := k) (pos := c1) (Calls.spliced_cons ?_)
  refine wpAny_Constant_int (k := l) (pos := c2) (Calls.spliced_nil ?_)
  exact call_repl1 hla (by show s'.toks ≠ 0; omega) (by show s'.toks + 1 ≠ 0; omega) (by show s'.toks ≠ s'.toks + 1; omega) fun t' k' => ⟨.str (S (cutO c a)), H', I'.tok k', ⟨t', rfl⟩, p⟩
end
end DY

set_option Elab.async false
set_option linter.all false
set_option maxRecDepth 100000
set_option maxHeartbeats 4000000
/-! ### mirrors where a token is out -/
namespace DY
open PySem L2 PySem.Spec PyProof.Rows
variable [Tb]
abbrev PDt (A : CT) (X : Cx) (e : Expr) (m : Ev) : Prop := PET X e (liftE X.K A m)
abbrev PDTt (A : CT) (X : Cx) (e : Expr) (m : Ev) : Prop := SL.PTT X e (liftT X.K A m)
abbrev PDSt (A : CT) (j : Option Nat) (X : Cx) (s : Stmt) (m : Sv) : Prop := PST X s (liftS X.K A j m)
abbrev PDSk (A : CT) (j : Option Nat) (X : Cx) (s : Stmt) (m : Sv) : Prop := SL.PSk X s (liftS X.K A j m)
abbrev PDSst (A : CT) (j : Option Nat) (X : Cx) (s : List Stmt) (m : Sv) : Prop := PSsT X s (liftS X.K A j m)
abbrev PDIt (A : CT) (X : Cx) (tg e : Expr) (m : Iv) : Prop := PIT X tg e (liftI X.K A m)
/-- the text without its first sign c -/
def repl1D (c : Nat) : D → R Rv
  | .str a => if a.length ≤ 100000 then .ok (.str (cutO c a), false) else .no
  | _ => .no
theorem repl1_e {c : Nat} {a : List Nat} (h : a.length ≤ 100000) : repl1D c (.str a) = .ok (.str (cutO c a), false) := if_pos h
section
variable {X : Cx} {A : CT} {j : Option Nat} {o e a b c : Expr} {mo me ma mb mc : Ev} {st : Stmt} {rest sa sb body : List Stmt} {m m' : Sv} {pos apos p' : Pos}
theorem seq_use {K : PySem.W.Frag} {D : Ends} {σ : L2.St} {H : Hp} (h : liftS K A j (sSeq m m') D σ H) : tSeq (liftS K A j m) (liftS K A j m') D σ H := by
  obtain ⟨B, G, ρ, o, ρ', s, e, k⟩ := h
  obtain ⟨⟨o1, ρ1⟩, e1, e⟩ := bind_ok e
  refine ⟨B, G, ρ, o1, ρ1, s, e1, ?_⟩
  cases o1 with
  | nx => exact fun σ' G' H' s' => ⟨B, G', ρ1, o, ρ', s', e, k⟩
  | bk => cases e; exact k
  | ct => cases e; exact k
  | rt r => cases e; exact k
theorem ifS_use {K : PySem.W.Frag} {D : Ends} {σ : L2.St} {H : Hp} (h : liftS K A j (sIf mc m m') D σ H) : tIfS (liftT K A mc) (liftS K A j m) (liftS K A j m') D σ H := by
  obtain ⟨B, G, ρ, o, ρ', s, e, k⟩ := h
  obtain ⟨⟨x, ρ1⟩, e1, e⟩ := bind_ok e
  obtain ⟨c, e2, e⟩ := bind_ok e
  cases isB_ok e2
  refine ⟨G, ρ, c, ρ1, s.st, e1, fun G1 H1 n => ?_⟩
  cases c with
  | true => exact iteT ⟨B, G1, ρ1, o, ρ', s.step n, e, k⟩
  | false => exact iteF ⟨B, G1, ρ1, o, ρ', s.step n, e, k⟩
theorem psst_one' {st : Stmt} {t : TS} (h : PST X st t) : PSsT X [st] t := fun pins s σ H D out I q => by
  refine wpAny_execs_cons (thn (h pins s σ H D out I q) fun fl s' p => ?_)
  match fl, p with
  | .next, p => exact wpAny_execs_nil p
  | .ret _, p => exact p
  | .brk, p => exact p
  | .cont, p => exact p
theorem pdss_tok (h1 : PDSk A j X st m) (h2 : PDSst A j X rest m') : PDSs A j X (st :: rest) (sSeq m m') := PSs.imp (SL.pss_tok h1 h2) fun _ _ _ h => seq_use h
theorem pdsst_cons (h1 : PDSt A j X st m) (h2 : PDSst A j X rest m') : PDSst A j X (st :: rest) (sSeq m m') := SL.PSsT.imp (psst_cons h1 h2) fun _ _ _ h => seq_use h
theorem pdsst_of (h : PDSs A j X rest m) : PDSst A j X rest m := PSsT.of h
theorem pdsst_one (h : PDSt A j X st m) : PDSst A j X [st] m := psst_one' h
theorem pdst_of (h : PDS A j X st m) : PDSt A j X st m := PST.of h
theorem pdst_if (hc : PDTt A X c mc) (ha : PDSst A j X sa m) (hb : PDSst A j X sb m') : PDSt A j X (.If c sa sb pos) (sIf mc m m') := SL.PST.imp (SL.pst_if' hc ha hb) fun _ _ _ h => ifS_use h
theorem pdst_for {tg it : Expr} {mi : Iv} {g : Tg} {ws : List Nat} (hp : PassesOwn (model X.prog X.w) X.A X.env X.xe) (hc : X.calm = true) (hi : PDIt A X tg it mi) (hg : PG X tg (liftG X.K A ws g)) (hb : PDSst A j X body m)
    (hs : ∀ x, foldedSetIterable it X.env x = pure x := by intro _; rfl) : PDSt A j X (.For tg it body [] pos) (sFor mi g m) := SL.PST.imp (SL.pst_forT hp hc hi hg hb hs) fun D σ H => for_use
theorem pdit_of {tg it : Expr} {mi : Iv} (h : PDI A X tg it mi) : PDIt A X tg it mi := fun pins s σ H R _ I q => h.run pins s σ H R I q
theorem pdtt_cmp {op : CmpOp} {f : D → D → R Rv} (hf : OpR X (compareOp op) (rD X.K A f)) (ha : PDt A X a ma) (hb : PD A X b mb) (hm : behindInMarks op b = false) : PDTt A X (.Compare a [op] [b] pos) (eBin f ma mb) :=
  SL.PTT.imp (SL.ptt_cmp hf ha hb hm) fun _ _ _ h => bin_use (test_use h)
theorem pdt_lc {e : Expr} {it : Iv} {vs ws : List Nat} {g : Tg} {c : Option Ev} {m : Ev} (hws : ∀ i ∈ ws, i ∈ vs) (h : PET X e (tLc (liftI X.K A it) (liftG X.K A ws g) (liftC X.K A c) (liftE X.K A m) vs)) : PDt A X e (eLc it g c m vs) := SL.PET.imp h fun _ _ _ => lc_use hws
theorem pdsk_set {w : Bool} {i : Nat} {x : Str} (hN : X.N.Nodup) (hi : X.N[i]? = some x) (hx : Loc X.env.scope x) (he : SL.PEk X e (liftE X.K A me)) (hw : w = true → j ≠ some i) (hs : swapsWith e (some (.Name x p')) pos.line X.env = pure false := by rfl) (hf : X.fn x = true ∨ X.env.scope.names.lookup x = some .local := by first | exact .inl rfl | exact .inr rfl | assumption) :
    PDSk A j X (.Assign [.Name x p'] e pos) (sAsg w i me) := SL.PSk.imp (SL.psk_set hN hi hx he hs hf) fun D σ H => set_use hw
theorem pdk_split {y : Str} {k c : Nat} {cp : Pos} (ho : PD A X o mo) (hy : y = S [c] := by rfl)
    (hs : starEach [.Constant (.str y) k cp] X.env = [(false, eval (.Constant (.str y) k cp) X.env)] := by rfl) (hb : attributeBase o "split" X.env (eval o X.env) = eval o X.env := by rfl) (hl : (apos.endLine == pos.line) = true := by rfl) :
    SL.PEk X (.Call (.Attribute o "split" apos) [.Constant (.str y) k cp] [] pos) (liftE X.K A (eBin splitD mo (eC (.str [c])))) := by
  subst hy
  refine SL.PEk.imp (SL.pek_m1 PySem.F.slot_str_split PySem.F.type_str_split mt_split ho hs hb hl) fun σ H Q q => ?_
  obtain ⟨G, ρ, r, ρ', s, e, k⟩ := q
  obtain ⟨⟨d1, ρ1⟩, e1, ea⟩ := bind_ok e
  obtain ⟨⟨d2, ρ2⟩, e2, eb⟩ := bind_ok ea
  obtain ⟨r', e3, ec⟩ := bind_ok eb
  clear e ea eb
  cases ec
  cases e2
  unfold splitD at e3
  split at e3
  · rename_i a c' hh
    cases hh
    split at e3
    · rename_i hl'
      refine use_val s e1 fun v G1 H1 n1 r1 => ?_
      cases r1
      refine ⟨⟨_, rfl⟩, ?_⟩
      show ∃ a b, _ ∧ _
      refine ⟨_, _, rfl, rfl, rfl, by show a.toArray.size + 2 ≤ _; rw [List.size_toArray, sizeLine_eq]; omega, ?_⟩
      cases e3
      rw [split_C hl'.2]
      intro p hp
      obtain ⟨n0, rr⟩ := new_lst (K := X.K) (A := A) n1.st.sub hp (reps_strsP (splC c a))
      exact end_of n1 k _ _ _ n0 rr
    · cases e3
  · cases e3
/-- for the signs of text.replace(sign, "", 1) -/
theorem pdit_repl1 {tg : Expr} {y z : Str} {k l n c : Nat} {c0 c1 c2 : Pos} (ho : PD A X o mo) (hy : y = S [c] := by rfl) (hz : z = S [] := by rfl)
    (hst : starEach [.Constant (.str y) k c0, .Constant (.str z) l c1, .Constant (.int 1) n c2] X.env = [(false, eval (.Constant (.str y) k c0) X.env), (false, eval (.Constant (.str z) l c1) X.env), (false, eval (.Constant (.int 1) n c2) X.env)] := by rfl)
    (hb : attributeBase o "replace" X.env (eval o X.env) = eval o X.env := by rfl) (hl : (apos.endLine == pos.line) = true := by rfl) :
    PDIt A X tg (.Call (.Attribute o "replace" apos) [.Constant (.str y) k c0, .Constant (.str z) l c1, .Constant (.int 1) n c2] [] pos) (iVal (eUn (repl1D c) mo)) := by
  intro pins s σ H R out I h
  obtain ⟨G, ρ, ds, ρ', st, e, kk⟩ := h
  obtain ⟨⟨x, ρ1⟩, e1, e⟩ := bind_ok e
  obtain ⟨ds', e2, e⟩ := bind_ok e
  cases e
  obtain ⟨⟨r, ρ2⟩, e3, e4⟩ := bind_ok e1
  cases e4
  obtain ⟨⟨y, ρ3⟩, e5, e6⟩ := bind_ok e3
  obtain ⟨r', e7, e8⟩ := bind_ok e6
  cases e8
  unfold repl1D at e7
  split at e7
  · rename_i a
    split at e7
    · rename_i ha
      cases e7
      unfold items at e2
      dsimp only at e2
      cases e2
      refine SL.pit_str (pet_repl1 ho hy hz hst hb hl) pins s σ H R out I (use_val st e5 fun v G1 H1 n1 r1 => ?_)
      cases r1
      refine ⟨a, rfl, ha, _, rfl, kk _ G1 H1 n1 ⟨_, _, by rw [List.length_map, show (cutO c a).length = (S (cutO c a)).cps.size by simp [S]]; exact walk_str, fun _ _ _ => trivial, fun i G H x H' hi ⟨g, s⟩ y => ?_⟩⟩
      obtain ⟨rfl, c', hc, rfl⟩ := y
      have hc' : (cutO c a)[i]? = some c' := by
        have : (cutO c a).toArray[i]? = some c' := hc
        simpa using this
      exact ⟨G, .str [c'], Nx0.refl s, by rw [List.getElem?_map, hc']; rfl, .str [c']⟩
    · cases e7
  · cases e7
end
end DY

set_option Elab.async false
set_option linter.all false
set_option maxRecDepth 100000
set_option maxHeartbeats 4000000
namespace DY
local instance : Tb := { T := [] }
noncomputable def mt__law_bag_1 : Sv :=
  (sAsg true 3 (eBin modD (eN intD [(eBin (addD no2) (eBin (addD no2) (eBin (mulD no2) (eVar 3) (eC (.int 27449))) (eBin modD (eN intD [(eVar 4)]) (eC (.int 1000081)))) (eBin (mulD no2) (eC (.int 13)) (eVar 1)))]) (eC (.int 2147483563))))
noncomputable def mt__law_bag_2 : Sv :=
  (sSeq (sAsg true 5 (eIf (eOr (eBin ltD (eVar 2) (eC (.int 0))) (eBin geD (eVar 2) (eBin powD (eC (.int 10)) (eC (.int 15))))) (eN absD [(eVar 2)]) (eC (.int 0))))
  (sRet (eN mkLst [(eVar 5), (eBin modD (eN intD [(eBin (addD no2) (eVar 3) (eBin (mulD no2) (eC (.int 39119)) (eBin modD (eN intD [(eVar 2)]) (eC (.int 999907)))))]) (eC (.int 2147483563))), (eC (.int 0))])))
noncomputable def mt__law_bag_3 : Sv :=
  (sSeq (sFor (iVal (eSlice (eVar 0) none (some (eC (.int 7))))) (gN 4) mt__law_bag_1)
  mt__law_bag_2)
noncomputable def mm__law_bag : Sv :=
  (sSeq (sPar true 2 3 (eIf (eBin ltD (eVar 1) (eBor1 (lenB no1) 0)) (eN intD [(eBor ixD 0 (eVar 1))]) (eC (.int 0))) (eBin (mulD no2) (eC (.int 50021)) (eBin (addD no2) (eVar 1) (eC (.int 7)))))
  mt__law_bag_3)
noncomputable def F__law_bag : Fn := shut (mkFn 6 2 mm__law_bag)
theorem q__law_bag : F__law_bag = mkFn 6 2 mm__law_bag := shut_eq _
theorem hl__law_bag : ∀ ds r, F__law_bag ds = .ok r → ds.length = 2 := by rw [q__law_bag]; exact mkFn_len
noncomputable def mm_is_integer : Sv :=
  (sRet (eAnd (eN isiD [(eVar 0), (eC (.ty .int))]) (eNot (eN isiD [(eVar 0), (eC (.ty .bool))]))))
noncomputable def F_is_integer : Fn := shut (mkFn 1 1 mm_is_integer)
theorem q_is_integer : F_is_integer = mkFn 1 1 mm_is_integer := shut_eq _
theorem hl_is_integer : ∀ ds r, F_is_integer ds = .ok r → ds.length = 1 := by rw [q_is_integer]; exact mkFn_len
noncomputable def mt_shared_factor_1 : Sv :=
  (sPar true 2 3 (eVar 3) (eBin modD (eVar 2) (eVar 3)))
noncomputable def mt_shared_factor_2 : Sv :=
  (sSeq (sWhile (eBin gtD (eVar 3) (eC (.int 0))) mt_shared_factor_1)
  (sRetV 2))
noncomputable def mm_shared_factor : Sv :=
  (sSeq (sPar true 2 3 (eN absD [(eVar 0)]) (eN absD [(eVar 1)]))
  mt_shared_factor_2)
noncomputable def F_shared_factor : Fn := shut (mkFn 4 2 mm_shared_factor)
theorem q_shared_factor : F_shared_factor = mkFn 4 2 mm_shared_factor := shut_eq _
theorem hl_shared_factor : ∀ ds r, F_shared_factor ds = .ok r → ds.length = 2 := by rw [q_shared_factor]; exact mkFn_len
noncomputable def mt_Ratio___init___1 : Sv :=
  (sSeq (sFld 0 0 (eBin fdivD (eVar 1) (eVar 3)))
  (sFld 0 1 (eBin fdivD (eVar 2) (eVar 3))))
noncomputable def mt_Ratio___init___2 : Sv :=
  (sSeq (sAsg true 3 (eN F_shared_factor [(eVar 1), (eVar 2)]))
  mt_Ratio___init___1)
noncomputable def mt_Ratio___init___3 : Sv :=
  (sSeq (sIf (eOr (eNot (eN F_is_integer [(eVar 2)])) (eBin ltD (eVar 2) (eC (.int 1)))) sNo sNext)
  mt_Ratio___init___2)
noncomputable def mm_Ratio___init__ : Sv :=
  (sSeq (sIf (eNot (eN F_is_integer [(eVar 1)])) sNo sNext)
  mt_Ratio___init___3)
noncomputable def F_Ratio___init__ : FnR := shut (mkFnR 4 3 0 mm_Ratio___init__)
theorem q_Ratio___init__ : F_Ratio___init__ = mkFnR 4 3 0 mm_Ratio___init__ := shut_eq _
theorem hi_Ratio___init__ : ∀ ds d r, F_Ratio___init__ ds d = .ok r → ds.length + 1 = 3 := by rw [q_Ratio___init__]; exact mkFnR_len
noncomputable def mm_as_ratio : Sv :=
  (sRet (eIf (eN isiD [(eVar 0), (eC (.cls 0))]) (eVar 0) (eN (fun xs => mkObj 0 F_Ratio___init__ (xs ++ [.int 1])) [(eVar 0)])))
noncomputable def F_as_ratio : Fn := shut (mkFn 1 1 mm_as_ratio)
theorem q_as_ratio : F_as_ratio = mkFn 1 1 mm_as_ratio := shut_eq _
theorem hl_as_ratio : ∀ ds r, F_as_ratio ds = .ok r → ds.length = 1 := by rw [q_as_ratio]; exact mkFn_len
noncomputable def mm_is_fraction : Sv :=
  (sRet (eOr (eN F_is_integer [(eVar 0)]) (eN isiD [(eVar 0), (eC (.cls 0))])))
noncomputable def F_is_fraction : Fn := shut (mkFn 1 1 mm_is_fraction)
theorem q_is_fraction : F_is_fraction = mkFn 1 1 mm_is_fraction := shut_eq _
theorem hl_is_fraction : ∀ ds r, F_is_fraction ds = .ok r → ds.length = 1 := by rw [q_is_fraction]; exact mkFn_len
noncomputable def mt_Ratio___eq___1 : Sv :=
  (sSeq (sAsg true 2 (eN F_as_ratio [(eVar 1)]))
  (sRet (eAnd (eBin (eqD no2) (eUn (fldD 0 0) (eVar 0)) (eUn (fldD 0 0) (eVar 2))) (eBin (eqD no2) (eUn (fldD 0 1) (eVar 0)) (eUn (fldD 0 1) (eVar 2))))))
noncomputable def mm_Ratio___eq__ : Sv :=
  (sSeq (sIf (eNot (eN F_is_fraction [(eVar 1)])) (sRet (eC (.bl false))) sNext)
  mt_Ratio___eq___1)
noncomputable def F_Ratio___eq__ : Fn := shut (mkFn 3 2 mm_Ratio___eq__)
theorem q_Ratio___eq__ : F_Ratio___eq__ = mkFn 3 2 mm_Ratio___eq__ := shut_eq _
noncomputable def mm_Ratio___str__ : Sv :=
  (sSeq (sIf (eBin (eqD no2) (eUn (fldD 0 1) (eVar 0)) (eC (.int 1))) (sRet (eUn fmtD (eUn (fldD 0 0) (eVar 0)))) sNext)
  (sRet (eN fcat [(eUn fmtD (eUn (fldD 0 0) (eVar 0))), (eC (.str [47])), (eUn fmtD (eUn (fldD 0 1) (eVar 0)))])))
noncomputable def F_Ratio___str__ : Fn := shut (mkFn 1 1 mm_Ratio___str__)
theorem q_Ratio___str__ : F_Ratio___str__ = mkFn 1 1 mm_Ratio___str__ := shut_eq _
noncomputable def mm_is_written : Sv :=
  (sSeq (sIf (eOr (eBin (eqD no2) (eVar 0) (eC (.str []))) (eNot (eN allD [(eLc (iVal (eVar 0)) (gN 1) none (eBin inD (eVar 1) (eC (.str [48, 49, 50, 51, 52, 53, 54, 55, 56, 57]))) [1])]))) (sRet (eC (.bl false))) sNext)
  (sRet (eOr (eBin (eqD no2) (eVar 0) (eC (.str [48]))) (eBin (neD no2) (eBor ixD 0 (eC (.int 0))) (eC (.str [48]))))))
noncomputable def F_is_written : Fn := shut (mkFn 2 1 mm_is_written)
theorem q_is_written : F_is_written = mkFn 2 1 mm_is_written := shut_eq _
theorem hl_is_written : ∀ ds r, F_is_written ds = .ok r → ds.length = 1 := by rw [q_is_written]; exact mkFn_len
noncomputable def mt_ratio_in_1 : Sv :=
  (sSeq (sAsg true 5 (eIf (eBin (neD no2) (eVar 3) (eC (.str []))) (eN intSD [(eVar 4)]) (eC (.int 1))))
  (sRet (eIf (eBin gtD (eVar 5) (eC (.int 0))) (eN (fun xs => mkObj 0 F_Ratio___init__ (xs ++ [])) [(eBin (mulD no2) (eVar 1) (eN intSD [(eVar 2)])), (eVar 5)]) (eC .non))))
noncomputable def mt_ratio_in_2 : Sv :=
  (sSeq (sIf (eOr (eNot (eN F_is_written [(eVar 2)])) (eAnd (eBin (neD no2) (eVar 3) (eC (.str []))) (eNot (eN F_is_written [(eVar 4)])))) (sRet (eC .non)) sNext)
  mt_ratio_in_1)
noncomputable def mt_ratio_in_3 : Sv :=
  (sSeq (sAsgT (gT [(gN 2), (gN 3), (gN 4)]) (eIf (eBin ltD (eVar 1) (eC (.int 0))) (eBin partD (eSlice (eVar 0) (some (eC (.int 1))) none) (eC (.str [47]))) (eBin partD (eVar 0) (eC (.str [47])))))
  mt_ratio_in_2)
noncomputable def mm_ratio_in : Sv :=
  (sSeq (sAsg true 1 (eIf (eBin (eqD no2) (eSlice (eVar 0) none (some (eC (.int 1)))) (eC (.str [45]))) (eUn (negD no1) (eC (.int 1))) (eC (.int 1))))
  mt_ratio_in_3)
noncomputable def F_ratio_in : Fn := shut (mkFn 6 1 mm_ratio_in)
theorem q_ratio_in : F_ratio_in = mkFn 6 1 mm_ratio_in := shut_eq _
theorem hl_ratio_in : ∀ ds r, F_ratio_in ds = .ok r → ds.length = 1 := by rw [q_ratio_in]; exact mkFn_len
noncomputable def mt_Ratio_read_1 : Sv :=
  (sSeq (sIf (eOr (eBin isN (eVar 1) (eC .non)) (eBin (neD no2) (eN (strD (sel1 (isC 0) (fun x => strG (F_Ratio___str__ [x])) no1)) [(eVar 1)]) (eVar 0))) (sRaise 22 (eVar 0)) sNext)
  (sRetV 1))
noncomputable def mm_Ratio_read : Sv :=
  (sSeq (sAsg true 1 (eIf (eN isiD [(eVar 0), (eC (.ty .str))]) (eN (pF F_ratio_in) [(eVar 0)]) (eC .non)))
  mt_Ratio_read_1)
noncomputable def F_Ratio_read : Fn := shut (mkFn 2 1 mm_Ratio_read)
theorem q_Ratio_read : F_Ratio_read = mkFn 2 1 mm_Ratio_read := shut_eq _
theorem hl_Ratio_read : ∀ ds r, F_Ratio_read ds = .ok r → ds.length = 1 := by rw [q_Ratio_read]; exact mkFn_len
theorem hx_Ratio_read : ∀ ds d, F_Ratio_read ds = .ex d → ds.length = 1 := by rw [q_Ratio_read]; exact mkFn_lenX
noncomputable def mt__law_draw_1 : Sv :=
  (sSeq (sPut putM 0 (eC (.int 0)) (eBin fdivD (eBor ixD 0 (eC (.int 0))) (eVar 1)))
  (sRetV 2))
noncomputable def mt__law_draw_2 : Sv :=
  (sSeq (sPut putM 0 (eC (.int 1)) (eBin modD (eN intD [(eBin (addD no2) (eBin (addD no2) (eBin (mulD no2) (eVar 3) (eVar 4)) (eBin (mulD no2) (eC (.int 11)) (eBor ixD 0 (eC (.int 2))))) (eC (.int 17)))]) (eC (.int 2147483563))))
  (sRet (eBin modD (eBin fdivD (eN intD [(eBor ixD 0 (eC (.int 1)))]) (eC (.int 523))) (eVar 1))))
noncomputable def mt__law_draw_3 : Sv :=
  (sSeq (sAsg true 4 (eBin (addD no2) (eBin modD (eN intD [(eVar 3)]) (eC (.int 59951))) (eC (.int 40031))))
  mt__law_draw_2)
noncomputable def mt__law_draw_4 : Sv :=
  (sSeq (sAsg true 3 (eBin (addD no2) (eN intD [(eBor ixD 0 (eC (.int 1)))]) (eBin (mulD no2) (eC (.int 104593)) (eBor ixD 0 (eC (.int 2))))))
  mt__law_draw_3)
noncomputable def mt__law_draw_5 : Sv :=
  (sSeq (sIf (eBin gtD (eBor ixD 0 (eC (.int 0))) (eC (.int 0))) (sSeq (sAsg true 2 (eBin modD (eN intD [(eBor ixD 0 (eC (.int 0)))]) (eVar 1)))
  mt__law_draw_1) sNext)
  mt__law_draw_4)
noncomputable def mm__law_draw : Sv :=
  (sSeq (sPut putM 0 (eC (.int 2)) (eBin (addD no2) (eBor ixD 0 (eC (.int 2))) (eC (.int 1))))
  mt__law_draw_5)
noncomputable def F__law_draw : FnR := shut (mkFnR 5 2 0 mm__law_draw)
theorem q__law_draw : F__law_draw = mkFnR 5 2 0 mm__law_draw := shut_eq _
noncomputable def mt__law_lowest_1 : Sv :=
  (sPar true 2 3 (eVar 3) (eBin modD (eN intD [(eVar 2)]) (eVar 3)))
noncomputable def mt__law_lowest_2 : Sv :=
  (sSeq (sAsg true 4 (eIf (eBin gtD (eVar 1) (eC (.int 0))) (eVar 2) (eBin (subD no2) (eC (.int 0)) (eVar 2))))
  (sRet (eN mkTup [(eBin fdivD (eVar 0) (eVar 4)), (eBin fdivD (eVar 1) (eVar 4))])))
noncomputable def mt__law_lowest_3 : Sv :=
  (sSeq (sWhile (eBin gtD (eVar 3) (eC (.int 0))) mt__law_lowest_1)
  mt__law_lowest_2)
noncomputable def mm__law_lowest : Sv :=
  (sSeq (sPar true 2 3 (eN absD [(eVar 0)]) (eN absD [(eVar 1)]))
  mt__law_lowest_3)
noncomputable def F__law_lowest : Fn := shut (mkFn 5 2 mm__law_lowest)
theorem q__law_lowest : F__law_lowest = mkFn 5 2 mm__law_lowest := shut_eq _
theorem hl__law_lowest : ∀ ds r, F__law_lowest ds = .ok r → ds.length = 2 := by rw [q__law_lowest]; exact mkFn_len
noncomputable def mm__law_one : Sv :=
  (sRet (eBor ixD 1 (eCallR F__law_draw [] 0 [(eBor1 (lenB no1) 1)])))
noncomputable def F__law_one : FnR := shut (mkFnR 2 2 0 mm__law_one)
theorem q__law_one : F__law_one = mkFnR 2 2 0 mm__law_one := shut_eq _
noncomputable def mm__law_written : Sv :=
  (sRet (eIf (eBin (eqD no2) (eBor ixD 0 (eC (.int 1))) (eC (.int 1))) (eN (strD no1) [(eBor ixD 0 (eC (.int 0)))]) (eBin (addD no2) (eBin (addD no2) (eN (strD no1) [(eBor ixD 0 (eC (.int 0)))]) (eC (.str [47]))) (eN (strD no1) [(eBor ixD 0 (eC (.int 1)))]))))
noncomputable def F__law_written : Fn := shut (mkFn 1 1 mm__law_written)
theorem q__law_written : F__law_written = mkFn 1 1 mm__law_written := shut_eq _
theorem hl__law_written : ∀ ds r, F__law_written ds = .ok r → ds.length = 1 := by rw [q__law_written]; exact mkFn_len
noncomputable def mt__law_read_1 : Sv :=
  (sSeq (sIf (eBin (neD no2) (eLc (iVal (eUn (repl1D 45) (eVar 2))) (gN 3) (some (eBin ninD (eVar 3) (eC (.str [48, 49, 50, 51, 52, 53, 54, 55, 56, 57])))) (eVar 3) [3]) (eN mkLst [])) (sRet (eC .non)) sNext)
  (sIf (eAnd (eBorR inD (eC (.str [45])) 2) (eBin (neD no2) (eBor ixD 2 (eC (.int 0))) (eC (.str [45])))) (sRet (eC .non)) sNext))
noncomputable def mt__law_read_2 : Sv :=
  (sSeq (sIf (eOr (eBin ltD (eBor ixD 4 (eC (.int 1))) (eC (.int 1))) (eOr (eBin (neD no2) (eN F__law_lowest [(eBor ixD 4 (eC (.int 0))), (eBor ixD 4 (eC (.int 1)))]) (eVar 4)) (eBin (neD no2) (eN F__law_written [(eVar 4)]) (eVar 0)))) (sRet (eC .non)) sNext)
  (sRetV 4))
noncomputable def mt__law_read_3 : Sv :=
  (sSeq (sAsg true 4 (eN mkTup [(eN intSD [(eBor ixD 1 (eC (.int 0)))]), (eIf (eBin gtD (eBor1 (lenB no1) 1) (eC (.int 1))) (eN intSD [(eBor ixD 1 (eC (.int 1)))]) (eC (.int 1)))]))
  mt__law_read_2)
noncomputable def mt__law_read_4 : Sv :=
  (sSeq (sFor (iVal (eVar 1)) (gN 2) mt__law_read_1)
  mt__law_read_3)
noncomputable def mt__law_read_5 : Sv :=
  (sSeq (sIf (eOr (eBin gtD (eBor1 (lenB no1) 1) (eC (.int 2))) (eBin (neD no2) (eLc (iVal (eVar 1)) (gN 2) (some (eBin inD (eVar 2) (eN mkLst [(eC (.str [])), (eC (.str [45]))]))) (eVar 2) [2]) (eN mkLst []))) (sRet (eC .non)) sNext)
  mt__law_read_4)
noncomputable def mt__law_read_6 : Sv :=
  (sSeq (sAsg true 1 (eBin splitD (eVar 0) (eC (.str [47]))))
  mt__law_read_5)
noncomputable def mm__law_read : Sv :=
  (sSeq (sIf (eOr (eNot (eN isiD [(eVar 0), (eC (.ty .str))])) (eBin gtD (eBor1 (lenB no1) 0) (eC (.int 40)))) (sRet (eC .non)) sNext)
  mt__law_read_6)
noncomputable def F__law_read : Fn := shut (mkFn 5 1 mm__law_read)
theorem q__law_read : F__law_read = mkFn 5 1 mm__law_read := shut_eq _
theorem hl__law_read : ∀ ds r, F__law_read ds = .ok r → ds.length = 1 := by rw [q__law_read]; exact mkFn_len
noncomputable def mm__law_sort (c : Nat) (x : D) : Sv :=
  (sSeq (sAsg true 1 (eN mkLst [(eN (isxD c isxF) [eVar 0, (eC (.cls 20))]), (eN (isxD c isxF) [eVar 0, (eC (.cls 44))]), (eN (isxD c isxF) [eVar 0, (eC (.cls 56))])]))
  (sSeq (sAsg true 2 (eN mkLst [(eN (isxD c isxF) [eVar 0, (eC (.ty .xv))]), (eN (isxD c isxF) [eVar 0, (eC (.ty .xl))]), (eN (isxD c isxF) [eVar 0, (eC (.ty .xa))])]))
  (sSeq (sAsg true 3 (eN mkLst []))
  (sSeq (sIf (eN (isxD c isxF) [eVar 0, (eC (.cls 22))]) (sExpr (eMut appendM 3 [(eN mkLst [(eC (.str [73, 110, 118, 97, 108, 105, 100, 84, 101, 120, 116])), (eN reprA [(eUn (atxD c gx_value x) (eVar 0))])])])) sNext)
  (sRet (eIf (eAnd (eBin (eqD no2) (eBor1 (lenB no1) 3) (eC (.int 1))) (eAnd (eBin (eqD no2) (eVar 1) (eVar 2)) (eBin (eqD no2) (eBin countB (eVar 1) (eC (.bl true))) (eC (.int 1))))) (eBor ixD 3 (eC (.int 0))) (eN mkLst [(eC (.str [111, 116, 104, 101, 114]))])))))))
noncomputable def F__law_sort : D → R Rv := runS2 4 mm__law_sort
noncomputable def mt__law_right_1 : Sv :=
  (sSeq (sAsg true 10 (eTold F__law_sort [114, 101, 116, 117, 114, 110, 101, 100] [false, false, false, false, true, false, false, false, false, false, false, false, false] (eN (strD (sel1 (isC 0) (fun x => strG (F_Ratio___str__ [x])) no1)) [(eN F_Ratio_read [(eVar 4)])])))
  (sIf (eBin (neD (sel (cany 0) (fun x y => F_Ratio___eq__ [x, y]) no2)) (eVar 10) (eIf (eBin isN (eVar 9) (eC .non)) (eN mkLst [(eC (.str [73, 110, 118, 97, 108, 105, 100, 84, 101, 120, 116])), (eN reprA [(eVar 4)])]) (eN mkLst [(eC (.str [114, 101, 116, 117, 114, 110, 101, 100])), (eVar 4)]))) (sRet (eC (.bl false))) sNext))
noncomputable def mt__law_right_2 : Sv :=
  (sSeq (sAsg true 9 (eN F__law_read [(eVar 4)]))
  mt__law_right_1)
noncomputable def mt__law_right_3 : Sv :=
  (sSeq (sAsg true 4 (eCallR F__law_one [] 0 [(eVar 8)]))
  mt__law_right_2)
noncomputable def mt__law_right_4 : Sv :=
  (sSeq (sAsg true 8 (eN mkLst [(eBin (addD no2) (eBin (addD no2) (eSlice (eVar 4) none (some (eVar 6))) (eVar 7)) (eSlice (eVar 4) (some (eVar 6)) none)), (eBin (addD no2) (eSlice (eVar 4) none (some (eVar 6))) (eSlice (eVar 4) (some (eBin (addD no2) (eVar 6) (eC (.int 1)))) none)), (eBin (addD no2) (eBin (addD no2) (eSlice (eVar 4) none (some (eVar 6))) (eVar 7)) (eSlice (eVar 4) (some (eBin (addD no2) (eVar 6) (eC (.int 1)))) none))]))
  mt__law_right_3)
noncomputable def mt__law_right_5 : Sv :=
  (sSeq (sPar true 6 7 (eCallR F__law_draw [] 0 [(eBin (addD no2) (eBor1 (lenB no1) 4) (eC (.int 1)))]) (eCallR F__law_one [] 0 [(eN mkLst [(eC (.str [45])), (eC (.str [47])), (eC (.str [48])), (eC (.str [49])), (eC (.str [51])), (eC (.str [32])), (eC (.str [43])), (eC (.str [46])), (eC (.str [120]))])]))
  mt__law_right_4)
noncomputable def mt__law_right_6 : Sv :=
  (sSeq (sIf (eBin (neD (sel (cany 0) (fun x y => F_Ratio___eq__ [x, y]) no2)) (eN mkLst [(eN (strD (sel1 (isC 0) (fun x => strG (F_Ratio___str__ [x])) no1)) [(eVar 5)]), (eN (strD (sel1 (isC 0) (fun x => strG (F_Ratio___str__ [x])) no1)) [(eN F_Ratio_read [(eVar 4)])]), (eBin (eqD (sel (cany 0) (fun x y => F_Ratio___eq__ [x, y]) no2)) (eNK F_Ratio_read (prm [0]) [] [(eVar 4)]) (eVar 5))]) (eN mkLst [(eVar 4), (eVar 4), (eC (.bl true))])) (sRet (eC (.bl false))) sNext)
  mt__law_right_5)
noncomputable def mt__law_right_7 : Sv :=
  (sSeq (sAsg true 5 (eN (fun xs => mkObj 0 F_Ratio___init__ (xs ++ [])) [(eBor ixD 3 (eC (.int 0))), (eBor ixD 3 (eC (.int 1)))]))
  mt__law_right_6)
noncomputable def mt__law_right_8 : Sv :=
  (sSeq (sAsg true 4 (eN F__law_written [(eVar 3)]))
  mt__law_right_7)
noncomputable def mt__law_right_9 : Sv :=
  (sSeq (sAsg true 3 (eN F__law_lowest [(eVar 2), (eBin (addD no2) (eC (.int 1)) (eCallR F__law_draw [] 0 [(eC (.int 60))]))]))
  mt__law_right_8)
noncomputable def mt__law_right_10 : Sv :=
  (sSeq (sAsg true 2 (eBin (mulD no2) (eCallR F__law_one [] 0 [(eN mkLst [(eC (.int 0)), (eC (.int 7)), (eCallR F__law_draw [] 0 [(eC (.int 99))]), (eCallR F__law_draw [] 0 [(eBin powD (eC (.int 10)) (eC (.int 9)))])])]) (eCallR F__law_one [] 0 [(eN mkLst [(eC (.int 1)), (eBin (subD no2) (eC (.int 0)) (eC (.int 1)))])])))
  mt__law_right_9)
noncomputable def mt__law_right_11 : Sv :=
  (sSeq (sAsg true 12 (eCallR F__law_one [] 0 [(eBin (addD no2) (eVar 11) (eN mkLst [(eC (.str [45, 48])), (eC (.str [43, 49])), (eC (.str [32, 49])), (eC (.str [49, 47, 45, 50])), (eN mkTup [(eC (.str [49]))]), (eN mkLst [])]))]))
  (sRet (eBin (eqD (sel (cany 0) (fun x y => F_Ratio___eq__ [x, y]) no2)) (eTold F__law_sort [114, 101, 116, 117, 114, 110, 101, 100] [false, false, false, false, false, false, false, false, false, false, false, false, true] (eN F_Ratio_read [(eVar 12)])) (eN mkLst [(eC (.str [73, 110, 118, 97, 108, 105, 100, 84, 101, 120, 116])), (eN reprA [(eVar 12)])]))))
noncomputable def mt__law_right_12 : Sv :=
  (sSeq (sAsg true 11 (eN mkLst [(eC .non), (eC (.int 3)), (eC (.str [])), (eC (.str [45])), (eC (.str [47])), (eC (.str [49, 47])), (eC (.str [47, 50])), (eC (.str [48, 47, 51])), (eC (.str [50, 47, 52])), (eC (.str [51, 47, 49])), (eC (.str [49, 47, 48]))]))
  mt__law_right_11)
noncomputable def mm__law_right : Sv :=
  (sSeq (sFor (iRange [(eC (.int 6))]) (gN 1) mt__law_right_10)
  mt__law_right_12)
noncomputable def F__law_right : FnR := shut (mkFnR 13 1 0 mm__law_right)
theorem q__law_right : F__law_right = mkFnR 13 1 0 mm__law_right := shut_eq _
noncomputable def mm_law : Sv :=
  (sRet (eN allD [(eLc (iRange [(eN maxD [(eC (.int 2)), (eN minD [(eBor1 (lenB no1) 0), (eC (.int 6))])])]) (gN 1) none (eCallT F__law_right [] (eN F__law_bag [(eVar 0), (eVar 1)])) [1])]))
noncomputable def F_law : Fn := shut (mkFn 2 1 mm_law)
theorem q_law : F_law = mkFn 2 1 mm_law := shut_eq _
end DY

set_option Elab.async false
set_option linter.all false
set_option maxRecDepth 100000
set_option maxHeartbeats 4000000
namespace DY
theorem u_mt__law_bag_1 {ρ : Env} : mt__law_bag_1 ρ = (sAsg true 3 (eBin modD (eN intD [(eBin (addD no2) (eBin (addD no2) (eBin (mulD no2) (eVar 3) (eC (.int 27449))) (eBin modD (eN intD [(eVar 4)]) (eC (.int 1000081)))) (eBin (mulD no2) (eC (.int 13)) (eVar 1)))]) (eC (.int 2147483563)))) ρ := rfl
theorem u_mt__law_bag_2 {ρ : Env} : mt__law_bag_2 ρ = (sSeq (sAsg true 5 (eIf (eOr (eBin ltD (eVar 2) (eC (.int 0))) (eBin geD (eVar 2) (eBin powD (eC (.int 10)) (eC (.int 15))))) (eN absD [(eVar 2)]) (eC (.int 0)))) (sRet (eN mkLst [(eVar 5), (eBin modD (eN intD [(eBin (addD no2) (eVar 3) (eBin (mulD no2) (eC (.int 39119)) (eBin modD (eN intD [(eVar 2)]) (eC (.int 999907)))))]) (eC (.int 2147483563))), (eC (.int 0))]))) ρ := rfl
theorem u_mt__law_bag_3 {ρ : Env} : mt__law_bag_3 ρ = (sSeq (sFor (iVal (eSlice (eVar 0) none (some (eC (.int 7))))) (gN 4) mt__law_bag_1) mt__law_bag_2) ρ := rfl
theorem u_mm__law_bag {ρ : Env} : mm__law_bag ρ = (sSeq (sPar true 2 3 (eIf (eBin ltD (eVar 1) (eBor1 (lenB no1) 0)) (eN intD [(eBor ixD 0 (eVar 1))]) (eC (.int 0))) (eBin (mulD no2) (eC (.int 50021)) (eBin (addD no2) (eVar 1) (eC (.int 7))))) mt__law_bag_3) ρ := rfl
theorem u_mm_is_integer {ρ : Env} : mm_is_integer ρ = (sRet (eAnd (eN isiD [(eVar 0), (eC (.ty .int))]) (eNot (eN isiD [(eVar 0), (eC (.ty .bool))])))) ρ := rfl
theorem u_mt_shared_factor_1 {ρ : Env} : mt_shared_factor_1 ρ = (sPar true 2 3 (eVar 3) (eBin modD (eVar 2) (eVar 3))) ρ := rfl
theorem u_mt_shared_factor_2 {ρ : Env} : mt_shared_factor_2 ρ = (sSeq (sWhile (eBin gtD (eVar 3) (eC (.int 0))) mt_shared_factor_1) (sRetV 2)) ρ := rfl
theorem u_mm_shared_factor {ρ : Env} : mm_shared_factor ρ = (sSeq (sPar true 2 3 (eN absD [(eVar 0)]) (eN absD [(eVar 1)])) mt_shared_factor_2) ρ := rfl
theorem u_mt_Ratio___init___1 {ρ : Env} : mt_Ratio___init___1 ρ = (sSeq (sFld 0 0 (eBin fdivD (eVar 1) (eVar 3))) (sFld 0 1 (eBin fdivD (eVar 2) (eVar 3)))) ρ := rfl
theorem u_mt_Ratio___init___2 {ρ : Env} : mt_Ratio___init___2 ρ = (sSeq (sAsg true 3 (eN F_shared_factor [(eVar 1), (eVar 2)])) mt_Ratio___init___1) ρ := rfl
theorem u_mt_Ratio___init___3 {ρ : Env} : mt_Ratio___init___3 ρ = (sSeq (sIf (eOr (eNot (eN F_is_integer [(eVar 2)])) (eBin ltD (eVar 2) (eC (.int 1)))) sNo sNext) mt_Ratio___init___2) ρ := rfl
theorem u_mm_Ratio___init__ {ρ : Env} : mm_Ratio___init__ ρ = (sSeq (sIf (eNot (eN F_is_integer [(eVar 1)])) sNo sNext) mt_Ratio___init___3) ρ := rfl
theorem u_mm_as_ratio {ρ : Env} : mm_as_ratio ρ = (sRet (eIf (eN isiD [(eVar 0), (eC (.cls 0))]) (eVar 0) (eN (fun xs => mkObj 0 F_Ratio___init__ (xs ++ [.int 1])) [(eVar 0)]))) ρ := rfl
theorem u_mm_is_fraction {ρ : Env} : mm_is_fraction ρ = (sRet (eOr (eN F_is_integer [(eVar 0)]) (eN isiD [(eVar 0), (eC (.cls 0))]))) ρ := rfl
theorem u_mt_Ratio___eq___1 {ρ : Env} : mt_Ratio___eq___1 ρ = (sSeq (sAsg true 2 (eN F_as_ratio [(eVar 1)])) (sRet (eAnd (eBin (eqD no2) (eUn (fldD 0 0) (eVar 0)) (eUn (fldD 0 0) (eVar 2))) (eBin (eqD no2) (eUn (fldD 0 1) (eVar 0)) (eUn (fldD 0 1) (eVar 2)))))) ρ := rfl
theorem u_mm_Ratio___eq__ {ρ : Env} : mm_Ratio___eq__ ρ = (sSeq (sIf (eNot (eN F_is_fraction [(eVar 1)])) (sRet (eC (.bl false))) sNext) mt_Ratio___eq___1) ρ := rfl
theorem u_mm_Ratio___str__ {ρ : Env} : mm_Ratio___str__ ρ = (sSeq (sIf (eBin (eqD no2) (eUn (fldD 0 1) (eVar 0)) (eC (.int 1))) (sRet (eUn fmtD (eUn (fldD 0 0) (eVar 0)))) sNext) (sRet (eN fcat [(eUn fmtD (eUn (fldD 0 0) (eVar 0))), (eC (.str [47])), (eUn fmtD (eUn (fldD 0 1) (eVar 0)))]))) ρ := rfl
theorem u_mm_is_written {ρ : Env} : mm_is_written ρ = (sSeq (sIf (eOr (eBin (eqD no2) (eVar 0) (eC (.str []))) (eNot (eN allD [(eLc (iVal (eVar 0)) (gN 1) none (eBin inD (eVar 1) (eC (.str [48, 49, 50, 51, 52, 53, 54, 55, 56, 57]))) [1])]))) (sRet (eC (.bl false))) sNext) (sRet (eOr (eBin (eqD no2) (eVar 0) (eC (.str [48]))) (eBin (neD no2) (eBor ixD 0 (eC (.int 0))) (eC (.str [48])))))) ρ := rfl
theorem u_mt_ratio_in_1 {ρ : Env} : mt_ratio_in_1 ρ = (sSeq (sAsg true 5 (eIf (eBin (neD no2) (eVar 3) (eC (.str []))) (eN intSD [(eVar 4)]) (eC (.int 1)))) (sRet (eIf (eBin gtD (eVar 5) (eC (.int 0))) (eN (fun xs => mkObj 0 F_Ratio___init__ (xs ++ [])) [(eBin (mulD no2) (eVar 1) (eN intSD [(eVar 2)])), (eVar 5)]) (eC .non)))) ρ := rfl
theorem u_mt_ratio_in_2 {ρ : Env} : mt_ratio_in_2 ρ = (sSeq (sIf (eOr (eNot (eN F_is_written [(eVar 2)])) (eAnd (eBin (neD no2) (eVar 3) (eC (.str []))) (eNot (eN F_is_written [(eVar 4)])))) (sRet (eC .non)) sNext) mt_ratio_in_1) ρ := rfl
theorem u_mt_ratio_in_3 {ρ : Env} : mt_ratio_in_3 ρ = (sSeq (sAsgT (gT [(gN 2), (gN 3), (gN 4)]) (eIf (eBin ltD (eVar 1) (eC (.int 0))) (eBin partD (eSlice (eVar 0) (some (eC (.int 1))) none) (eC (.str [47]))) (eBin partD (eVar 0) (eC (.str [47]))))) mt_ratio_in_2) ρ := rfl
theorem u_mm_ratio_in {ρ : Env} : mm_ratio_in ρ = (sSeq (sAsg true 1 (eIf (eBin (eqD no2) (eSlice (eVar 0) none (some (eC (.int 1)))) (eC (.str [45]))) (eUn (negD no1) (eC (.int 1))) (eC (.int 1)))) mt_ratio_in_3) ρ := rfl
theorem u_mt_Ratio_read_1 {ρ : Env} : mt_Ratio_read_1 ρ = (sSeq (sIf (eOr (eBin isN (eVar 1) (eC .non)) (eBin (neD no2) (eN (strD (sel1 (isC 0) (fun x => strG (F_Ratio___str__ [x])) no1)) [(eVar 1)]) (eVar 0))) (sRaise 22 (eVar 0)) sNext) (sRetV 1)) ρ := rfl
theorem u_mm_Ratio_read {ρ : Env} : mm_Ratio_read ρ = (sSeq (sAsg true 1 (eIf (eN isiD [(eVar 0), (eC (.ty .str))]) (eN (pF F_ratio_in) [(eVar 0)]) (eC .non))) mt_Ratio_read_1) ρ := rfl
theorem u_mt__law_draw_1 {ρ : Env} : mt__law_draw_1 ρ = (sSeq (sPut putM 0 (eC (.int 0)) (eBin fdivD (eBor ixD 0 (eC (.int 0))) (eVar 1))) (sRetV 2)) ρ := rfl
theorem u_mt__law_draw_2 {ρ : Env} : mt__law_draw_2 ρ = (sSeq (sPut putM 0 (eC (.int 1)) (eBin modD (eN intD [(eBin (addD no2) (eBin (addD no2) (eBin (mulD no2) (eVar 3) (eVar 4)) (eBin (mulD no2) (eC (.int 11)) (eBor ixD 0 (eC (.int 2))))) (eC (.int 17)))]) (eC (.int 2147483563)))) (sRet (eBin modD (eBin fdivD (eN intD [(eBor ixD 0 (eC (.int 1)))]) (eC (.int 523))) (eVar 1)))) ρ := rfl
theorem u_mt__law_draw_3 {ρ : Env} : mt__law_draw_3 ρ = (sSeq (sAsg true 4 (eBin (addD no2) (eBin modD (eN intD [(eVar 3)]) (eC (.int 59951))) (eC (.int 40031)))) mt__law_draw_2) ρ := rfl
theorem u_mt__law_draw_4 {ρ : Env} : mt__law_draw_4 ρ = (sSeq (sAsg true 3 (eBin (addD no2) (eN intD [(eBor ixD 0 (eC (.int 1)))]) (eBin (mulD no2) (eC (.int 104593)) (eBor ixD 0 (eC (.int 2)))))) mt__law_draw_3) ρ := rfl
theorem u_mt__law_draw_5 {ρ : Env} : mt__law_draw_5 ρ = (sSeq (sIf (eBin gtD (eBor ixD 0 (eC (.int 0))) (eC (.int 0))) (sSeq (sAsg true 2 (eBin modD (eN intD [(eBor ixD 0 (eC (.int 0)))]) (eVar 1))) mt__law_draw_1) sNext) mt__law_draw_4) ρ := rfl
theorem u_mm__law_draw {ρ : Env} : mm__law_draw ρ = (sSeq (sPut putM 0 (eC (.int 2)) (eBin (addD no2) (eBor ixD 0 (eC (.int 2))) (eC (.int 1)))) mt__law_draw_5) ρ := rfl
theorem u_mt__law_lowest_1 {ρ : Env} : mt__law_lowest_1 ρ = (sPar true 2 3 (eVar 3) (eBin modD (eN intD [(eVar 2)]) (eVar 3))) ρ := rfl
theorem u_mt__law_lowest_2 {ρ : Env} : mt__law_lowest_2 ρ = (sSeq (sAsg true 4 (eIf (eBin gtD (eVar 1) (eC (.int 0))) (eVar 2) (eBin (subD no2) (eC (.int 0)) (eVar 2)))) (sRet (eN mkTup [(eBin fdivD (eVar 0) (eVar 4)), (eBin fdivD (eVar 1) (eVar 4))]))) ρ := rfl
theorem u_mt__law_lowest_3 {ρ : Env} : mt__law_lowest_3 ρ = (sSeq (sWhile (eBin gtD (eVar 3) (eC (.int 0))) mt__law_lowest_1) mt__law_lowest_2) ρ := rfl
theorem u_mm__law_lowest {ρ : Env} : mm__law_lowest ρ = (sSeq (sPar true 2 3 (eN absD [(eVar 0)]) (eN absD [(eVar 1)])) mt__law_lowest_3) ρ := rfl
theorem u_mm__law_one {ρ : Env} : mm__law_one ρ = (sRet (eBor ixD 1 (eCallR F__law_draw [] 0 [(eBor1 (lenB no1) 1)]))) ρ := rfl
theorem u_mm__law_written {ρ : Env} : mm__law_written ρ = (sRet (eIf (eBin (eqD no2) (eBor ixD 0 (eC (.int 1))) (eC (.int 1))) (eN (strD no1) [(eBor ixD 0 (eC (.int 0)))]) (eBin (addD no2) (eBin (addD no2) (eN (strD no1) [(eBor ixD 0 (eC (.int 0)))]) (eC (.str [47]))) (eN (strD no1) [(eBor ixD 0 (eC (.int 1)))])))) ρ := rfl
theorem u_mt__law_read_1 {ρ : Env} : mt__law_read_1 ρ = (sSeq (sIf (eBin (neD no2) (eLc (iVal (eUn (repl1D 45) (eVar 2))) (gN 3) (some (eBin ninD (eVar 3) (eC (.str [48, 49, 50, 51, 52, 53, 54, 55, 56, 57])))) (eVar 3) [3]) (eN mkLst [])) (sRet (eC .non)) sNext) (sIf (eAnd (eBorR inD (eC (.str [45])) 2) (eBin (neD no2) (eBor ixD 2 (eC (.int 0))) (eC (.str [45])))) (sRet (eC .non)) sNext)) ρ := rfl
theorem u_mt__law_read_2 {ρ : Env} : mt__law_read_2 ρ = (sSeq (sIf (eOr (eBin ltD (eBor ixD 4 (eC (.int 1))) (eC (.int 1))) (eOr (eBin (neD no2) (eN F__law_lowest [(eBor ixD 4 (eC (.int 0))), (eBor ixD 4 (eC (.int 1)))]) (eVar 4)) (eBin (neD no2) (eN F__law_written [(eVar 4)]) (eVar 0)))) (sRet (eC .non)) sNext) (sRetV 4)) ρ := rfl
theorem u_mt__law_read_3 {ρ : Env} : mt__law_read_3 ρ = (sSeq (sAsg true 4 (eN mkTup [(eN intSD [(eBor ixD 1 (eC (.int 0)))]), (eIf (eBin gtD (eBor1 (lenB no1) 1) (eC (.int 1))) (eN intSD [(eBor ixD 1 (eC (.int 1)))]) (eC (.int 1)))])) mt__law_read_2) ρ := rfl
theorem u_mt__law_read_4 {ρ : Env} : mt__law_read_4 ρ = (sSeq (sFor (iVal (eVar 1)) (gN 2) mt__law_read_1) mt__law_read_3) ρ := rfl
theorem u_mt__law_read_5 {ρ : Env} : mt__law_read_5 ρ = (sSeq (sIf (eOr (eBin gtD (eBor1 (lenB no1) 1) (eC (.int 2))) (eBin (neD no2) (eLc (iVal (eVar 1)) (gN 2) (some (eBin inD (eVar 2) (eN mkLst [(eC (.str [])), (eC (.str [45]))]))) (eVar 2) [2]) (eN mkLst []))) (sRet (eC .non)) sNext) mt__law_read_4) ρ := rfl
theorem u_mt__law_read_6 {ρ : Env} : mt__law_read_6 ρ = (sSeq (sAsg true 1 (eBin splitD (eVar 0) (eC (.str [47])))) mt__law_read_5) ρ := rfl
theorem u_mm__law_read {ρ : Env} : mm__law_read ρ = (sSeq (sIf (eOr (eNot (eN isiD [(eVar 0), (eC (.ty .str))])) (eBin gtD (eBor1 (lenB no1) 0) (eC (.int 40)))) (sRet (eC .non)) sNext) mt__law_read_6) ρ := rfl
theorem u_mt__law_right_1 {ρ : Env} : mt__law_right_1 ρ = (sSeq (sAsg true 10 (eTold F__law_sort [114, 101, 116, 117, 114, 110, 101, 100] [false, false, false, false, true, false, false, false, false, false, false, false, false] (eN (strD (sel1 (isC 0) (fun x => strG (F_Ratio___str__ [x])) no1)) [(eN F_Ratio_read [(eVar 4)])]))) (sIf (eBin (neD (sel (cany 0) (fun x y => F_Ratio___eq__ [x, y]) no2)) (eVar 10) (eIf (eBin isN (eVar 9) (eC .non)) (eN mkLst [(eC (.str [73, 110, 118, 97, 108, 105, 100, 84, 101, 120, 116])), (eN reprA [(eVar 4)])]) (eN mkLst [(eC (.str [114, 101, 116, 117, 114, 110, 101, 100])), (eVar 4)]))) (sRet (eC (.bl false))) sNext)) ρ := rfl
theorem u_mt__law_right_2 {ρ : Env} : mt__law_right_2 ρ = (sSeq (sAsg true 9 (eN F__law_read [(eVar 4)])) mt__law_right_1) ρ := rfl
theorem u_mt__law_right_3 {ρ : Env} : mt__law_right_3 ρ = (sSeq (sAsg true 4 (eCallR F__law_one [] 0 [(eVar 8)])) mt__law_right_2) ρ := rfl
theorem u_mt__law_right_4 {ρ : Env} : mt__law_right_4 ρ = (sSeq (sAsg true 8 (eN mkLst [(eBin (addD no2) (eBin (addD no2) (eSlice (eVar 4) none (some (eVar 6))) (eVar 7)) (eSlice (eVar 4) (some (eVar 6)) none)), (eBin (addD no2) (eSlice (eVar 4) none (some (eVar 6))) (eSlice (eVar 4) (some (eBin (addD no2) (eVar 6) (eC (.int 1)))) none)), (eBin (addD no2) (eBin (addD no2) (eSlice (eVar 4) none (some (eVar 6))) (eVar 7)) (eSlice (eVar 4) (some (eBin (addD no2) (eVar 6) (eC (.int 1)))) none))])) mt__law_right_3) ρ := rfl
theorem u_mt__law_right_5 {ρ : Env} : mt__law_right_5 ρ = (sSeq (sPar true 6 7 (eCallR F__law_draw [] 0 [(eBin (addD no2) (eBor1 (lenB no1) 4) (eC (.int 1)))]) (eCallR F__law_one [] 0 [(eN mkLst [(eC (.str [45])), (eC (.str [47])), (eC (.str [48])), (eC (.str [49])), (eC (.str [51])), (eC (.str [32])), (eC (.str [43])), (eC (.str [46])), (eC (.str [120]))])])) mt__law_right_4) ρ := rfl
theorem u_mt__law_right_6 {ρ : Env} : mt__law_right_6 ρ = (sSeq (sIf (eBin (neD (sel (cany 0) (fun x y => F_Ratio___eq__ [x, y]) no2)) (eN mkLst [(eN (strD (sel1 (isC 0) (fun x => strG (F_Ratio___str__ [x])) no1)) [(eVar 5)]), (eN (strD (sel1 (isC 0) (fun x => strG (F_Ratio___str__ [x])) no1)) [(eN F_Ratio_read [(eVar 4)])]), (eBin (eqD (sel (cany 0) (fun x y => F_Ratio___eq__ [x, y]) no2)) (eNK F_Ratio_read (prm [0]) [] [(eVar 4)]) (eVar 5))]) (eN mkLst [(eVar 4), (eVar 4), (eC (.bl true))])) (sRet (eC (.bl false))) sNext) mt__law_right_5) ρ := rfl
theorem u_mt__law_right_7 {ρ : Env} : mt__law_right_7 ρ = (sSeq (sAsg true 5 (eN (fun xs => mkObj 0 F_Ratio___init__ (xs ++ [])) [(eBor ixD 3 (eC (.int 0))), (eBor ixD 3 (eC (.int 1)))])) mt__law_right_6) ρ := rfl
theorem u_mt__law_right_8 {ρ : Env} : mt__law_right_8 ρ = (sSeq (sAsg true 4 (eN F__law_written [(eVar 3)])) mt__law_right_7) ρ := rfl
theorem u_mt__law_right_9 {ρ : Env} : mt__law_right_9 ρ = (sSeq (sAsg true 3 (eN F__law_lowest [(eVar 2), (eBin (addD no2) (eC (.int 1)) (eCallR F__law_draw [] 0 [(eC (.int 60))]))])) mt__law_right_8) ρ := rfl
theorem u_mt__law_right_10 {ρ : Env} : mt__law_right_10 ρ = (sSeq (sAsg true 2 (eBin (mulD no2) (eCallR F__law_one [] 0 [(eN mkLst [(eC (.int 0)), (eC (.int 7)), (eCallR F__law_draw [] 0 [(eC (.int 99))]), (eCallR F__law_draw [] 0 [(eBin powD (eC (.int 10)) (eC (.int 9)))])])]) (eCallR F__law_one [] 0 [(eN mkLst [(eC (.int 1)), (eBin (subD no2) (eC (.int 0)) (eC (.int 1)))])]))) mt__law_right_9) ρ := rfl
theorem u_mt__law_right_11 {ρ : Env} : mt__law_right_11 ρ = (sSeq (sAsg true 12 (eCallR F__law_one [] 0 [(eBin (addD no2) (eVar 11) (eN mkLst [(eC (.str [45, 48])), (eC (.str [43, 49])), (eC (.str [32, 49])), (eC (.str [49, 47, 45, 50])), (eN mkTup [(eC (.str [49]))]), (eN mkLst [])]))])) (sRet (eBin (eqD (sel (cany 0) (fun x y => F_Ratio___eq__ [x, y]) no2)) (eTold F__law_sort [114, 101, 116, 117, 114, 110, 101, 100] [false, false, false, false, false, false, false, false, false, false, false, false, true] (eN F_Ratio_read [(eVar 12)])) (eN mkLst [(eC (.str [73, 110, 118, 97, 108, 105, 100, 84, 101, 120, 116])), (eN reprA [(eVar 12)])])))) ρ := rfl
theorem u_mt__law_right_12 {ρ : Env} : mt__law_right_12 ρ = (sSeq (sAsg true 11 (eN mkLst [(eC .non), (eC (.int 3)), (eC (.str [])), (eC (.str [45])), (eC (.str [47])), (eC (.str [49, 47])), (eC (.str [47, 50])), (eC (.str [48, 47, 51])), (eC (.str [50, 47, 52])), (eC (.str [51, 47, 49])), (eC (.str [49, 47, 48]))])) mt__law_right_11) ρ := rfl
theorem u_mm__law_right {ρ : Env} : mm__law_right ρ = (sSeq (sFor (iRange [(eC (.int 6))]) (gN 1) mt__law_right_10) mt__law_right_12) ρ := rfl
theorem u_mm_law {ρ : Env} : mm_law ρ = (sRet (eN allD [(eLc (iRange [(eN maxD [(eC (.int 2)), (eN minD [(eBor1 (lenB no1) 0), (eC (.int 6))])])]) (gN 1) none (eCallT F__law_right [] (eN F__law_bag [(eVar 0), (eVar 1)])) [1])])) ρ := rfl
theorem o__law_bag {x0 x1 : D} : F__law_bag [x0, x1] = bnd (mm__law_bag [.sh x0, .sh x1, .un, .un, .un, .un]) fun r => endOf r.1 := by rw [q__law_bag]; exact fn_eq rfl
theorem o_is_integer {x0 : D} : F_is_integer [x0] = bnd (mm_is_integer [.sh x0]) fun r => endOf r.1 := by rw [q_is_integer]; exact fn_eq rfl
theorem o_shared_factor {x0 x1 : D} : F_shared_factor [x0, x1] = bnd (mm_shared_factor [.sh x0, .sh x1, .un, .un]) fun r => endOf r.1 := by rw [q_shared_factor]; exact fn_eq rfl
theorem o_Ratio___init__ {x0 x1 x2 : D} : F_Ratio___init__ [x1, x2] x0 = bnd (mm_Ratio___init__ [.ow x0, .sh x1, .sh x2, .un]) fun r => bnd (endOf r.1) fun t => bnd (ownG r.2[0]?) fun d' => .ok (t, d') := by rw [q_Ratio___init__]; exact fnR_eq rfl (by decide)
theorem o_as_ratio {x0 : D} : F_as_ratio [x0] = bnd (mm_as_ratio [.sh x0]) fun r => endOf r.1 := by rw [q_as_ratio]; exact fn_eq rfl
theorem o_is_fraction {x0 : D} : F_is_fraction [x0] = bnd (mm_is_fraction [.sh x0]) fun r => endOf r.1 := by rw [q_is_fraction]; exact fn_eq rfl
theorem o_Ratio___eq__ {x0 x1 : D} : F_Ratio___eq__ [x0, x1] = bnd (mm_Ratio___eq__ [.sh x0, .sh x1, .un]) fun r => endOf r.1 := by rw [q_Ratio___eq__]; exact fn_eq rfl
theorem o_Ratio___str__ {x0 : D} : F_Ratio___str__ [x0] = bnd (mm_Ratio___str__ [.sh x0]) fun r => endOf r.1 := by rw [q_Ratio___str__]; exact fn_eq rfl
theorem o_is_written {x0 : D} : F_is_written [x0] = bnd (mm_is_written [.sh x0, .un]) fun r => endOf r.1 := by rw [q_is_written]; exact fn_eq rfl
theorem o_ratio_in {x0 : D} : F_ratio_in [x0] = bnd (mm_ratio_in [.sh x0, .un, .un, .un, .un, .un]) fun r => endOf r.1 := by rw [q_ratio_in]; exact fn_eq rfl
theorem o_Ratio_read {x0 : D} : F_Ratio_read [x0] = bnd (mm_Ratio_read [.sh x0, .un]) fun r => endOf r.1 := by rw [q_Ratio_read]; exact fn_eq rfl
theorem o__law_draw {x0 x1 : D} : F__law_draw [x1] x0 = bnd (mm__law_draw [.ow x0, .sh x1, .un, .un, .un]) fun r => bnd (endOf r.1) fun t => bnd (ownG r.2[0]?) fun d' => .ok (t, d') := by rw [q__law_draw]; exact fnR_eq rfl (by decide)
theorem o__law_lowest {x0 x1 : D} : F__law_lowest [x0, x1] = bnd (mm__law_lowest [.sh x0, .sh x1, .un, .un, .un]) fun r => endOf r.1 := by rw [q__law_lowest]; exact fn_eq rfl
theorem o__law_one {x0 x1 : D} : F__law_one [x1] x0 = bnd (mm__law_one [.ow x0, .sh x1]) fun r => bnd (endOf r.1) fun t => bnd (ownG r.2[0]?) fun d' => .ok (t, d') := by rw [q__law_one]; exact fnR_eq rfl (by decide)
theorem o__law_written {x0 : D} : F__law_written [x0] = bnd (mm__law_written [.sh x0]) fun r => endOf r.1 := by rw [q__law_written]; exact fn_eq rfl
theorem o__law_read {x0 : D} : F__law_read [x0] = bnd (mm__law_read [.sh x0, .un, .un, .un, .un]) fun r => endOf r.1 := by rw [q__law_read]; exact fn_eq rfl
theorem o__law_right {x0 : D} : F__law_right [] x0 = bnd (mm__law_right [.ow x0, .un, .un, .un, .un, .un, .un, .un, .un, .un, .un, .un, .un]) fun r => bnd (endOf r.1) fun t => bnd (ownG r.2[0]?) fun d' => .ok (t, d') := by rw [q__law_right]; exact fnR_eq rfl (by decide)
theorem o_law {x0 : D} : F_law [x0] = bnd (mm_law [.sh x0, .un]) fun r => endOf r.1 := by rw [q_law]; exact fn_eq rfl
end DY

set_option Elab.async false
set_option linter.all false
set_option maxRecDepth 100000
set_option maxHeartbeats 4000000
namespace DY
local instance : Tb := { T := [] }
/-! ### numbers by letters -/
abbrev Nm := List (Nat × Int)
/-! ### in order -/
def canon (f : Nat → Int) : Nm := (List.range' 97 26).filterMap fun c => if f c = 0 then none else some (c, f c)
/-! ### forms -/
@[reducible] def prD (p : Nat × Int) : D := .tup [.str [p.1], .int p.2]
@[reducible] def tmD (t : Nm) : D := .tup (t.map prD)
def fmN (f : Nat → Int) : List Nat := (canon f).map (·.1)
@[reducible] def fm (c : Int) (f : Nat → Int) : D := .ins 1 [.int c, tmD (canon f), .str (fmN f)]
end DY
namespace DY
/-! ### equality of data -/
mutual
theorem eqv_refl : ∀ (n : Nat) (x : D), dok n x = true → eqv x x = true
  | _, .non, _ => rfl
  | _, .bl b, _ => by simp [eqv]
  | _, .int i, _ => by simp [eqv]
  | _, .str s, _ => by simp [eqv]
  | n + 1, .tup xs, h => by
    have h' : doks n xs = true := by simpa [dok] using h
    show eqvs xs xs = true
    exact eqvs_refl n xs h'
  | n + 1, .kt xs, h => by
    have h' : doks n xs = true := by simpa [dok] using h
    show eqvs xs xs = true
    exact eqvs_refl n xs h'
  | n + 1, .lst xs, h => by
    have h' : doks n xs = true := by simpa [dok] using h
    show eqvs xs xs = true
    exact eqvs_refl n xs h'
  | n + 1, .fls xs, h => by
    have h' : doks n xs = true := by simpa [dok] using h
    show eqvs xs xs = true
    exact eqvs_refl n xs h'
  | 0, .tup xs, h => by simp [dok] at h
  | 0, .kt xs, h => by simp [dok] at h
  | 0, .lst xs, h => by simp [dok] at h
  | 0, .fls xs, h => by simp [dok] at h
  | _, .dic xs, h => by simp [dok] at h
  | _, .dct xs, h => by simp [dok] at h
  | _, .ins c xs, h => by simp [dok] at h
  | _, .ty t, h => by simp [dok] at h
  | _, .cls t, h => by simp [dok] at h
theorem eqvs_refl : ∀ (n : Nat) (xs : List D), doks n xs = true → eqvs xs xs = true
  | _, [], _ => by simp [eqvs]
  | n, x :: xs, h => by
    have h' : dok n x = true ∧ doks n xs = true := by simpa [doks] using h
    simp only [eqvs, eqv_refl n x h'.1, eqvs_refl n xs h'.2, Bool.and_self]
end
theorem doks_all {n : Nat} : ∀ {xs : List D}, (∀ x ∈ xs, dok n x = true) → doks n xs = true
  | [], _ => by simp [doks]
  | x :: xs, h => by
    simp only [doks, h x (List.mem_cons_self ..), doks_all fun y hy => h y (List.mem_cons_of_mem _ hy), Bool.and_self]
theorem dok_lst {n : Nat} {xs : List D} (h : ∀ x ∈ xs, dok n x = true) : dok (n + 1) (.lst xs) = true := by simp only [dok]; exact doks_all h
/-! ### worths -/
end DY

set_option Elab.async false
set_option linter.all false
set_option maxRecDepth 100000
set_option maxHeartbeats 4000000
namespace DY
local macro_rules | `(tactic| exists $es,*) => do
  let ls ← es.getElems.mapM fun e => `(Lean.Parser.Tactic.simpLemma| $e:term)
  `(tactic| simp -dsimp -implicitDefEqProofs (disch := walk_at "ds") only [bnd_ok, bnd_ex, bnd_bnd, Wn_ok, cnd_t, cnd_f, cnd_n, cnd_p, cnd_q, varG_sh, varG_ow, movG_sh, lookG_sh, lookG_ow, ownG_ow, get_0, get_s, set_0, set_s, ev_var, ev_mov0, ev_look, ev_c, ev_bin, ev_un, ev_bor, ev_borR, ev_bor1, ev_nil, ev_cons, ev_n, ev_if, ev_and, ev_or, notR_bl, ev_not, ev_callR, ev_callT, ev_nk, isL_ok, ev_mut, intR_i, ev_part0, ev_part1, ev_slice, seqk_nx, seqk_rt, ev_seq, ev_next, keep_tt, keep_tf, ev_asg, ev_par, ev_gN, ev_gTk, ev_g0, ev_g1, ev_asgT, ev_expr, ev_ret, ev_retV, ev_sif, ev_for, ev_while, ev_put, ev_fld, fldG_0, fldG_1, end_nx, end_rt, objE_go, ev_iv, items_lst, items_str, ev_range, rngG_1, forE_nx, forE_rt, LK_nx, LK_bk, cndO_none, cndO_some, ev_lc, add_i, add_s, add_l, sub_i, mul_i, fdiv_i, mod_i, pow_i, neg_i, lt_i, gt_i, ge_i, eq_i, eq_s, eq_o, ne_s, isN_n, isN_t, isN_o, sel_t, sel1_t, in_c, nin_c, ixt_0, ixt_1, ixt_2, ixl_0, ixl_1, ixl_2, sl_f, sl_s, len_l, len_f, len_s, isi_int_i, isi_bool_i, isi_str_s, isi_int_o, isi_o, abs_i, int_i, max_i, min_i, all_m, str_i, str_o, mkTup_e, mkLst_e, app_e, put_l0, put_l1, put_l2, fld_0, fld_1, wipe_0, wipe_s, okS_un, okS_sh, okS_us, noOw_0, noOw_s, back_0, back_s, getD_0, getD_s, strG_e, repl1_e, u_mt__law_bag_1, u_mt__law_bag_2, u_mt__law_bag_3, u_mm__law_bag, u_mm_is_integer, u_mt_shared_factor_1, u_mt_shared_factor_2, u_mm_shared_factor, u_mt_Ratio___init___1, u_mt_Ratio___init___2, u_mt_Ratio___init___3, u_mm_Ratio___init__, u_mm_as_ratio, u_mm_is_fraction, u_mt_Ratio___eq___1, u_mm_Ratio___eq__, u_mm_Ratio___str__, u_mm_is_written, u_mt_ratio_in_1, u_mt_ratio_in_2, u_mt_ratio_in_3, u_mm_ratio_in, u_mt_Ratio_read_1, u_mm_Ratio_read, u_mt__law_draw_1, u_mt__law_draw_2, u_mt__law_draw_3, u_mt__law_draw_4, u_mt__law_draw_5, u_mm__law_draw, u_mt__law_lowest_1, u_mt__law_lowest_2, u_mt__law_lowest_3, u_mm__law_lowest, u_mm__law_one, u_mm__law_written, u_mt__law_read_3, u_mt__law_read_4, u_mt__law_read_5, u_mt__law_read_6, u_mm__law_read, u_mt__law_right_1, u_mt__law_right_2, u_mt__law_right_3, u_mt__law_right_4, u_mt__law_right_5, u_mt__law_right_6, u_mt__law_right_7, u_mt__law_right_8, u_mt__law_right_9, u_mt__law_right_10, u_mt__law_right_11, u_mt__law_right_12, u_mm__law_right, u_mm_law, decide_true, decide_false, if_true, if_false, Bool.not_true, Bool.not_false, List.length_cons, List.length_nil, Int.cast_ofNat_Int, List.nil_append, List.cons_append, List.append_nil, and_self, and_true, true_and, and_false, false_and, List.length_map, Int.reduceToNat, Int.reducePow, Int.reduceSub, Int.reduceAdd, Int.reduceMul, Int.reduceNeg, $ls,*])
open SL (nm dn gI Bd)
local instance : Tb := { T := [] }
local macro_rules | `(tactic| walk_at "ds") => `(tactic| first | assumption | omega | (simp only [List.length_map, List.length_append, List.length_cons, List.length_nil]; omega) | exact mulOk_n (by omega) (by omega) | exact divOk_b (by omega) (by omega) | (refine id ?_; with_unfolding_all rfl) | (refine id ?_; with_unfolding_all exact Nat.le_of_ble_eq_true rfl) | (simp only [noOw_s, noOw_0, okS_un, okS_sh, okS_us, get_0, get_s, Bool.and_true]; done))
--#STOP mt__law_read_1 mt__law_read_2
--#NEW
/-! ### bags -/
def BagOk (n : Nat) (d : D) : Prop := ∃ a b c : Int, d = .lst [.int a, .int b, .int c] ∧ 0 ≤ a ∧ 0 ≤ b ∧ b < 2147483648 ∧ 0 ≤ c ∧ c ≤ n
theorem BagOk.mono {n m : Nat} {d : D} (h : BagOk n d) (l : n ≤ m) : BagOk m d := by
  obtain ⟨a, b, c, e, h1, h2, h3, h4, h5⟩ := h
  exact ⟨a, b, c, e, h1, h2, h3, h4, by omega⟩
section
variable {γ : Type} {kk : Rv × D → R γ} {P : γ → Prop} {n : Nat} {bag : D} {w : Int}
theorem wp_draw (hb : BagOk n bag) (hn : n < 2 ^ 60) (hw : 0 < w) (hw2 : w < 2 ^ 64) (k : ∀ i d', 0 ≤ i → i < w → BagOk (n + 1) d' → Wn (kk ((.int i, false), d')) P) : Wn (bnd (F__law_draw [.int w] bag) kk) P := by
  obtain ⟨a, b, c, rfl, h1, h2, h3, h4, h5⟩ := hb
  rw [o__law_draw]
  exists bnd_ok
  refine wp_d (fun q => ?_) fun q => ?_
  · exists bnd_ok
    exact k _ _ (fm_lo _ hw) (fm_hi _ hw) ⟨a.fdiv w, b, c + 1, rfl, Int.fdiv_nonneg h1 (by omega), h2, h3, by omega, by omega⟩
  · have q1 := fm_lo (b + 104593 * (c + 1)) (j := 59951) (by decide)
    have q2 := fm_hi (b + 104593 * (c + 1)) (j := 59951) (by decide)
    exists bnd_ok
    exact k _ _ (fm_lo _ hw) (fm_hi _ hw) ⟨a, _, c + 1, rfl, h1, fm_lo _ (by decide), Int.lt_trans (fm_hi _ (by decide)) (by decide), by omega, by omega⟩
theorem wp_one {xs : List D} (hb : BagOk n bag) (hn : n < 2 ^ 60) (h0 : 0 < xs.length) (h1 : xs.length < 2 ^ 60) (k : ∀ x d', x ∈ xs → BagOk (n + 1) d' → Wn (kk ((x, false), d')) P) : Wn (bnd (F__law_one [.lst xs] bag) kk) P := by
  rw [o__law_one]
  exists bnd_ok
  refine wp_draw hb hn (by omega) (by omega) fun i d' q1 q2 hb' => ?_
  have e := ix_l q1 q2
  exists e
  exact k _ _ (List.getElem_mem _) hb'
theorem wp_bag {ns : List Int} {k : Int} {kk : Rv → R γ} (hk : 0 ≤ k) (hk2 : k ≤ 63) (h : ∀ d, BagOk 0 d → Wn (kk (d, true)) P) : Wn (bnd (F__law_bag [.fls (ns.map D.int), .int k]) kk) P := by
  rw [o__law_bag]
  have loop : ∀ (cell seed : Int), 0 ≤ seed → seed < 2147483648 → Wn (bnd (forGo (gN 4) mt__law_bag_1 (cut (ns.map D.int) none (some 7)) [.sh (.fls (ns.map D.int)), .sh (.int k), .sh (.int cell), .sh (.int seed), .un, .un]) fun x => bnd (bnd (seqk mt__law_bag_2 x.1 x.2) fun r => endOf r.1) kk) P := fun cell seed s1 s2 => by
    rw [cut_map]
    refine wp_for (fun _ ρ => ∃ (seed : Int) (s : Slot), ρ = [.sh (.fls (ns.map D.int)), .sh (.int k), .sh (.int cell), .sh (.int seed), s, .un] ∧ 0 ≤ seed ∧ seed < 2147483648) ⟨seed, _, rfl, s1, s2⟩ (fun _ x ρ _ q => ?_) fun ρ q => ?_
    · obtain ⟨seed, s, rfl, h1, h2⟩ := q
      have q1 := fm_lo x (j := 1000081) (by decide)
      have q2 := fm_hi x (j := 1000081) (by decide)
      exists bnd_ok
      exact ⟨_, _, rfl, fm_lo _ (by decide), Int.lt_trans (fm_hi _ (by decide)) (by decide)⟩
    · obtain ⟨seed, s, rfl, h1, h2⟩ := q
      have ab : 0 ≤ if cell < 0 then -cell else cell := by split <;> omega
      have q1 := fm_lo cell (j := 999907) (by decide)
      have q2 := fm_hi cell (j := 999907) (by decide)
      by_cases z1 : cell < 0
      · exists bnd_ok
        refine h _ ?_; exact ⟨_, _, 0, rfl, ab, fm_lo _ (by decide), Int.lt_trans (fm_hi _ (by decide)) (by decide), by decide, by decide⟩
      · by_cases z2 : 1000000000000000 ≤ cell
        · exists bnd_ok
          refine h _ ?_; exact ⟨_, _, 0, rfl, ab, fm_lo _ (by decide), Int.lt_trans (fm_hi _ (by decide)) (by decide), by decide, by decide⟩
        · exists bnd_ok
          refine h _ ?_; exact ⟨_, _, 0, rfl, by decide, fm_lo _ (by decide), Int.lt_trans (fm_hi _ (by decide)) (by decide), by decide, by decide⟩
  by_cases q : k < ns.length
  · have e := ix_f hk (show k < (ns.map D.int).length by rw [List.length_map]; exact q)
    exists e, List.getElem_map
    exact loop _ _ (by omega) (by omega)
  · exists bnd_ok
    exact loop _ _ (by omega) (by omega)
end
/-! ### kinds of data -/
section
variable {p : Bool} {i : Int} {a : List Nat} {xs : List D} {kvs : List (Ky × D)} {c c' : Nat} {fs : List D}
end
/-! ### letters -/
theorem fm_some {α : Type} (f : α → Bool) (xs : List α) : xs.filterMap (fun x => some (D.bl (f x))) = (xs.map f).map D.bl := by
  rw [List.filterMap_eq_map']; simp
theorem all_id {α : Type} (f : α → Bool) (xs : List α) : (xs.map f).all id = xs.all f := by rw [List.all_map]; rfl
/-! ### integers among values -/
section
variable {p : Bool} {i : Int} {a : List Nat} {xs : List D} {kvs : List (Ky × D)}
theorem e_isint {i : Int} : F_is_integer [.int i] = .ok (.bl true, false) := by rw [o_is_integer]; exists bnd_ok
end
section
variable {a b : Int}
theorem e_factor (hb : 0 < b) (hz : Bd 8000 b) : F_shared_factor [.int a, .int b] = .ok (.int (gI a b), false) := by
  refine Wn.eq ?_
  rw [o_shared_factor]
  exists e_isint
  refine wp_while (fun ρ : Env => match (ρ[3]? : Option Slot) with | some (.sh (.int l)) => l.toNat | _ => 0) (fun ρ => ∃ x y : Int, ρ = [.sh (.int a), .sh (.int b), .sh (.int x), .sh (.int y)] ∧ 0 ≤ x ∧ 0 ≤ y ∧ gI x y = gI a b ∧ Bd 8000 y) ⟨_, _, rfl, by split <;> omega, by split <;> omega, SL.gI_abs a b, by split; exact hz.neg; exact hz⟩ (fun ρ q => ?_) fun ρ q => ?_
  · obtain ⟨x, y, rfl, _, h2, _, h4⟩ := q
    show y.toNat < 2 ^ 9000
    have : y.toNat ≤ y.natAbs := by omega
    exact Nat.lt_of_le_of_lt this (Nat.lt_of_lt_of_le h4 (Nat.pow_le_pow_right (by decide) (by decide)))
  · obtain ⟨x, y, rfl, h1, h2, h3, h4⟩ := q
    by_cases q : 0 < y
    · exists e_isint
      have q1 := fm_lo x q
      have q2 := fm_hi x q
      refine ⟨⟨y, _, rfl, h2, q1, by rw [SL.gcd_turn h1 q]; exact h3, h4.of_le (by omega)⟩, ?_⟩
      show (x.fmod y).toNat < y.toNat
      omega
    · have e : y = 0 := by omega
      subst e
      exists e_isint
      rw [SL.gI_zero h1] at h3
      rw [h3]
theorem fdiv_gI {n d : Int} (h : 0 < d) : n.fdiv (gI n d) = nm n d ∧ d.fdiv (gI n d) = dn n d := by
  have g := SL.gI_pos (n := n) (d := d) (by omega)
  unfold nm dn
  exact ⟨Int.fdiv_eq_ediv_of_nonneg _ (by omega), Int.fdiv_eq_ediv_of_nonneg _ (by omega)⟩
theorem divOk_g {j : Int} (h : 0 < j) (hz : Bd 8000 j) : divOk j = true := by
  unfold divOk
  rw [Bool.and_eq_true, decide_eq_true_eq, decide_eq_true_eq]
  refine ⟨by omega, ?_⟩
  have : j.natAbs.log2 < 8000 := (Nat.log2_lt (by omega)).mpr hz
  omega
theorem e_lowest {a b : Int} (hb : 0 < b) (hz : Bd 8000 b) : F__law_lowest [.int a, .int b] = .ok (.tup [.int (nm a b), .int (dn a b)], false) := by
  have g := SL.gI_pos (n := a) (d := b) (by omega)
  have gb := divOk_g g (hz.of_le (SL.gI_le hb))
  refine Wn.eq ?_
  rw [o__law_lowest]
  exists e_isint
  refine wp_while (fun ρ : Env => match (ρ[3]? : Option Slot) with | some (.sh (.int l)) => l.toNat | _ => 0) (fun ρ => ∃ x y : Int, ρ = [.sh (.int a), .sh (.int b), .sh (.int x), .sh (.int y), .un] ∧ 0 ≤ x ∧ 0 ≤ y ∧ gI x y = gI a b ∧ Bd 8000 y) ⟨_, _, rfl, by split <;> omega, by split <;> omega, SL.gI_abs a b, by split; exact hz.neg; exact hz⟩ (fun ρ q => ?_) fun ρ q => ?_
  · obtain ⟨x, y, rfl, _, h2, _, h4⟩ := q
    show y.toNat < 2 ^ 9000
    have : y.toNat ≤ y.natAbs := by omega
    exact Nat.lt_of_le_of_lt this (Nat.lt_of_lt_of_le h4 (Nat.pow_le_pow_right (by decide) (by decide)))
  · obtain ⟨x, y, rfl, h1, h2, h3, h4⟩ := q
    by_cases q : 0 < y
    · exists e_isint
      have q1 := fm_lo x q
      have q2 := fm_hi x q
      refine ⟨⟨y, _, rfl, h2, q1, by rw [SL.gcd_turn h1 q]; exact h3, h4.of_le (by omega)⟩, ?_⟩
      show (x.fmod y).toNat < y.toNat
      omega
    · have e : y = 0 := by omega
      subst e
      rw [SL.gI_zero h1] at h3
      subst h3
      have f := fdiv_gI (n := a) hb
      exists e_isint, gb
      rw [f.1, f.2]
end

local macro_rules | `(tactic| exists $es,*) => do
  let ls ← es.getElems.mapM fun e => `(Lean.Parser.Tactic.simpLemma| $e:term)
  `(tactic| simp -dsimp -implicitDefEqProofs (disch := walk_at "ds") only [bnd_ok, bnd_ex, bnd_bnd, Wn_ok, cnd_t, cnd_f, cnd_n, cnd_p, cnd_q, varG_sh, varG_ow, movG_sh, lookG_sh, lookG_ow, ownG_ow, get_0, get_s, set_0, set_s, ev_var, ev_mov0, ev_look, ev_c, ev_bin, ev_un, ev_bor, ev_borR, ev_bor1, ev_nil, ev_cons, ev_n, ev_if, ev_and, ev_or, notR_bl, ev_not, ev_callR, ev_callT, ev_nk, isL_ok, ev_mut, intR_i, ev_part0, ev_part1, ev_slice, seqk_nx, seqk_rt, ev_seq, ev_next, keep_tt, keep_tf, ev_asg, ev_par, ev_gN, ev_gTk, ev_g0, ev_g1, ev_asgT, ev_expr, ev_ret, ev_retV, ev_sif, ev_for, ev_while, ev_put, ev_fld, fldG_0, fldG_1, end_nx, end_rt, objE_go, ev_iv, items_lst, items_str, ev_range, rngG_1, forE_nx, forE_rt, LK_nx, LK_bk, cndO_none, cndO_some, ev_lc, add_i, add_s, add_l, sub_i, mul_i, fdiv_i, mod_i, pow_i, neg_i, lt_i, gt_i, ge_i, eq_i, eq_s, eq_o, ne_s, isN_n, isN_t, isN_o, sel_t, sel1_t, in_c, nin_c, ixt_0, ixt_1, ixt_2, ixl_0, ixl_1, ixl_2, sl_f, sl_s, len_l, len_f, len_s, isi_int_i, isi_bool_i, isi_str_s, isi_int_o, isi_o, abs_i, int_i, max_i, min_i, all_m, str_i, str_o, mkTup_e, mkLst_e, app_e, put_l0, put_l1, put_l2, fld_0, fld_1, wipe_0, wipe_s, okS_un, okS_sh, okS_us, noOw_0, noOw_s, back_0, back_s, getD_0, getD_s, strG_e, repl1_e, u_mt__law_bag_1, u_mt__law_bag_2, u_mt__law_bag_3, u_mm__law_bag, u_mm_is_integer, u_mt_shared_factor_1, u_mt_shared_factor_2, u_mm_shared_factor, u_mt_Ratio___init___1, u_mt_Ratio___init___2, u_mt_Ratio___init___3, u_mm_Ratio___init__, u_mm_as_ratio, u_mm_is_fraction, u_mt_Ratio___eq___1, u_mm_Ratio___eq__, u_mm_Ratio___str__, u_mm_is_written, u_mt_ratio_in_1, u_mt_ratio_in_2, u_mt_ratio_in_3, u_mm_ratio_in, u_mt_Ratio_read_1, u_mm_Ratio_read, u_mt__law_draw_1, u_mt__law_draw_2, u_mt__law_draw_3, u_mt__law_draw_4, u_mt__law_draw_5, u_mm__law_draw, u_mt__law_lowest_1, u_mt__law_lowest_2, u_mt__law_lowest_3, u_mm__law_lowest, u_mm__law_one, u_mm__law_written, u_mt__law_read_3, u_mt__law_read_4, u_mt__law_read_5, u_mt__law_read_6, u_mm__law_read, u_mt__law_right_1, u_mt__law_right_2, u_mt__law_right_3, u_mt__law_right_4, u_mt__law_right_5, u_mt__law_right_6, u_mt__law_right_7, u_mt__law_right_8, u_mt__law_right_9, u_mt__law_right_10, u_mt__law_right_11, u_mt__law_right_12, u_mm__law_right, u_mm_law, e_isint, decide_true, decide_false, if_true, if_false, Bool.not_true, Bool.not_false, List.length_cons, List.length_nil, Int.cast_ofNat_Int, List.nil_append, List.cons_append, List.append_nil, and_self, and_true, true_and, and_false, false_and, List.length_map, Int.reduceToNat, Int.reducePow, Int.reduceSub, Int.reduceAdd, Int.reduceMul, Int.reduceNeg, $ls,*])
--#NEW
/-! ### texts of fractions -/
@[reducible] def rat (n d : Int) : D := .ins 0 [.int (nm n d), .int (dn n d)]
section
variable {t : List Nat} {n d : Int}
theorem e_ratio (hd : 0 < d) (hz : Bd 8000 d) : mkObj 0 F_Ratio___init__ [.int n, .int d] = .ok (rat n d, false) := by
  have gp := SL.gI_pos (n := n) (d := d) (by omega)
  have gd : divOk (gI n d) = true := divOk_g gp (hz.of_le (SL.gI_le hd))
  rw [obj_eq, o_Ratio___init__]
  exists e_factor hd hz, (fdiv_gI hd).1, (fdiv_gI hd).2
def dgB (c : Nat) : Bool := decide (48 ≤ c) && decide (c ≤ 57)
def wrB (t : List Nat) : Bool := !t.isEmpty && (t.all dgB && (decide (t = [48]) || !decide (t.head? = some 48)))
theorem dg_mem (x : Nat) : decide (x ∈ [48, 49, 50, 51, 52, 53, 54, 55, 56, 57]) = dgB x := by
  unfold dgB
  rw [← Bool.decide_and]
  refine decide_eq_decide.mpr ?_
  simp only [List.mem_cons, List.not_mem_nil, or_false]
  omega
theorem ixs0 {c : Nat} {r : List Nat} (h : (c :: r).length ≤ 100000) : ixD (.str (c :: r)) (.int 0) = .ok (.str [c], false) := by
  unfold ixD
  dsimp only
  rw [if_pos h]
  have : atI (c :: r) 0 = some c := by
    unfold atI ixN
    rw [if_pos (by omega), if_pos (by simp)]; rfl
  rw [this]; rfl
theorem e_written (h : t.length ≤ 1000) : F_is_written [.str t] = .ok (.bl (wrB t), false) := by
  rw [o_is_written]
  cases t with
  | nil =>
    exists e_ratio
    rfl
  | cons c r =>
    have e0 : decide (c :: r = []) = false := decide_eq_false (fun z => nomatch z)
    exists e_ratio, e0
    rw [lc_eq (fun x => some (.bl (dgB x))) rfl h (fun x _ => ⟨[.sh (.str (c :: r)), .sh (.str [x])], ?_, rfl, rfl⟩), fm_some]
    · exists e_ratio
      rw [all_id]
      cases q : (c :: r).all dgB with
      | false =>
        exists e_ratio
        show _ = R.ok (D.bl (true && ((c :: r).all dgB && _)), false)
        rw [q]; rfl
      | true =>
        exists e_ratio
        by_cases q1 : c :: r = [48]
        · have q2 : decide (c :: r = [48]) = true := decide_eq_true q1
          exists e_ratio, q2
          show _ = R.ok (D.bl (true && ((c :: r).all dgB && (decide (c :: r = [48]) || _))), false)
          rw [q, q2]; rfl
        · have q2 : decide (c :: r = [48]) = false := decide_eq_false q1
          exists e_ratio, q2, ixs0 (show (c :: r).length ≤ 100000 by omega)
          show _ = R.ok (D.bl (true && ((c :: r).all dgB && (decide (c :: r = [48]) || !decide (some c = some 48)))), false)
          rw [q, q2]
          simp
    · exists e_ratio
      rw [dg_mem]
/-- what a text writes, top and bottom -/
def ratT (t : List Nat) : Option (Int × Int) :=
  let sg : Int := if t.take 1 = [45] then -1 else 1
  let r := if t.take 1 = [45] then t.drop 1 else t
  if 47 ∈ r then
    if wrB (bef 47 r) && wrB (beh 47 r) && decide (0 < valN (beh 47 r)) then some (sg * (valN (bef 47 r) : Int), (valN (beh 47 r) : Int)) else none
  else if wrB r then some (sg * (valN r : Int), 1) else none
theorem wr_num {l : List Nat} (h : wrB l = true) (h2 : l.length ≤ 600) : intSD [.str l] = .ok (.int (valN l : Int), false) := by
  unfold wrB at h
  rw [Bool.and_eq_true, Bool.and_eq_true] at h
  have hd : isDg l = true := by
    unfold isDg
    rw [Bool.and_eq_true]
    exact ⟨h.2.1, h.1⟩
  have hn : numT l = some (valN l : Int) := by
    unfold numT
    split
    · rename_i l2
      have := h.2.1
      rw [List.all_cons] at this
      exact absurd (Bool.and_eq_true_iff.mp this).1 (by decide)
    · rw [if_pos hd]
  unfold intSD
  dsimp only
  rw [if_pos h2, hn]; rfl
theorem valN_le : ∀ (l : List Nat) (a : Nat), (∀ c ∈ l, c ≤ 57) → l.foldl (fun acc c => acc * 10 + (c - 48)) a < (a + 1) * 10 ^ l.length
  | [], a, _ => by simp
  | c :: l, a, h => by
    rw [List.foldl_cons]
    have h1 := valN_le l (a * 10 + (c - 48)) fun d hd => h d (List.mem_cons_of_mem _ hd)
    have h2 := h c (List.mem_cons_self ..)
    rw [List.length_cons, Nat.pow_succ]
    refine Nat.lt_of_lt_of_le h1 ?_
    calc (a * 10 + (c - 48) + 1) * 10 ^ l.length ≤ ((a + 1) * 10) * 10 ^ l.length := Nat.mul_le_mul_right _ (by omega)
      _ = (a + 1) * (10 ^ l.length * 10) := by rw [Nat.mul_assoc, Nat.mul_comm 10]
theorem wr_bd {l : List Nat} (h : wrB l = true) (hl : l.length ≤ 500) : Bd 8000 (valN l : Int) := by
  unfold wrB at h
  rw [Bool.and_eq_true, Bool.and_eq_true] at h
  have h1 := valN_le l 0 fun c hc => by
    have := List.all_eq_true.mp h.2.1 c hc
    unfold dgB at this
    rw [Bool.and_eq_true] at this
    exact of_decide_eq_true this.2
  have h2 : valN l < 10 ^ 500 := by
    refine Nat.lt_of_lt_of_le h1 ?_
    rw [Nat.zero_add, Nat.one_mul]
    exact Nat.pow_le_pow_right (by decide) hl
  show (valN l : Int).natAbs < 2 ^ 8000
  rw [Int.natAbs_natCast]
  exact Nat.lt_trans h2 (by decide +kernel)
theorem mul_sg {v sg : Int} (hv : Bd 8000 v) (hs : sg = 1 ∨ sg = -1) : mulOk sg v = true := by
  unfold mulOk
  have h1 : sg.natAbs.log2 = 0 := by rcases hs with rfl | rfl <;> rfl
  have h2 : v.natAbs.log2 < 8000 ∨ v.natAbs = 0 := by
    by_cases q : v.natAbs = 0
    · exact .inr q
    · exact .inl ((Nat.log2_lt q).mpr hv)
  refine decide_eq_true ?_
  rcases h2 with h2 | h2
  · omega
  · rw [h2]; have : Nat.log2 0 = 0 := by decide
    omega
theorem bef_len {c : Nat} : ∀ a : List Nat, (bef c a).length ≤ a.length
  | [] => Nat.le_refl _
  | x :: xs => by
    unfold bef
    have := bef_len (c := c) xs
    split
    · exact Nat.zero_le _
    · simp only [List.length_cons]; omega
theorem beh_len {c : Nat} : ∀ a : List Nat, (beh c a).length ≤ a.length
  | [] => Nat.le_refl _
  | x :: xs => by
    unfold beh
    have := beh_len (c := c) xs
    split <;> (simp only [List.length_cons]; omega)
theorem part_y {c : Nat} {a : List Nat} (hl : a.length ≤ 100000) (h : c ∈ a) : partD (.str a) (.str [c]) = .ok (.kt [.str (bef c a), .str [c], .str (beh c a)], false) := by
  unfold partD; dsimp only; rw [if_pos hl, if_pos h]
theorem part_n {c : Nat} {a : List Nat} (hl : a.length ≤ 100000) (h : c ∉ a) : partD (.str a) (.str [c]) = .ok (.kt [.str a, .str [], .str []], false) := by
  unfold partD; dsimp only; rw [if_pos hl, if_neg h]
theorem e47 : decide (([47] : List Nat) = []) = false := rfl
/-- behind the sign -/
theorem rin_tail {sg : Int} {r : List Nat} (hs : sg = 1 ∨ sg = -1) (h : r.length ≤ 500) :
    (bnd (partD (.str r) (.str [47])) fun x => bnd (bnd (bnd (.ok (x, [Slot.sh (.str t), .sh (.int sg), .un, .un, .un, .un])) fun r => bnd (gT [gN 2, gN 3, gN 4] r.1.1 r.2) fun ρ2 => .ok (Out.nx, ρ2)) fun r => seqk mt_ratio_in_2 r.1 r.2) fun r => endOf r.1) =
      .ok (match (if 47 ∈ r then (if wrB (bef 47 r) && wrB (beh 47 r) && decide (0 < valN (beh 47 r)) then some (sg * (valN (bef 47 r) : Int), (valN (beh 47 r) : Int)) else none) else if wrB r then some (sg * (valN r : Int), 1) else none) with | some p => (rat p.1 p.2, false) | none => (.non, false)) := by
  have h1 := bef_len (c := 47) r
  have h2 := beh_len (c := 47) r
  by_cases q : 47 ∈ r
  · rw [if_pos q]
    cases w1 : wrB (bef 47 r) with
    | false =>
      exists e_ratio, e47, part_y (show r.length ≤ 100000 by omega) q, e_written (show (bef 47 r).length ≤ 1000 by omega), w1
      rfl
    | true =>
      cases w2 : wrB (beh 47 r) with
      | false =>
        exists e_ratio, e47, part_y (show r.length ≤ 100000 by omega) q, e_written (show (bef 47 r).length ≤ 1000 by omega), w1, e_written (show (beh 47 r).length ≤ 1000 by omega), w2
        rfl
      | true =>
        have m1 : mulOk sg (valN (bef 47 r) : Int) = true := mul_sg (wr_bd w1 (by omega)) hs
        by_cases q3 : 0 < valN (beh 47 r)
        · have q4 : (0 : Int) < (valN (beh 47 r) : Int) := by omega
          exists e_ratio, e47, part_y (show r.length ≤ 100000 by omega) q, e_written (show (bef 47 r).length ≤ 1000 by omega), w1, e_written (show (beh 47 r).length ≤ 1000 by omega), w2, wr_num w1 (by omega), wr_num w2 (by omega), m1, decide_eq_true q4, e_ratio q4 (wr_bd w2 (by omega))
          rw [decide_eq_true q3]
          rfl
        · have q4 : ¬ (0 : Int) < (valN (beh 47 r) : Int) := by omega
          exists e_ratio, e47, part_y (show r.length ≤ 100000 by omega) q, e_written (show (bef 47 r).length ≤ 1000 by omega), w1, e_written (show (beh 47 r).length ≤ 1000 by omega), w2, wr_num w1 (by omega), wr_num w2 (by omega), m1, decide_eq_false q4
          rw [decide_eq_false q3]
          rfl
  · rw [if_neg q]
    cases w1 : wrB r with
    | false =>
      exists e_ratio, part_n (show r.length ≤ 100000 by omega) q, e_written (show r.length ≤ 1000 by omega), w1
      rfl
    | true =>
      have m1 : mulOk sg (valN r : Int) = true := mul_sg (wr_bd w1 (by omega)) hs
      exists e_ratio, part_n (show r.length ≤ 100000 by omega) q, e_written (show r.length ≤ 1000 by omega), w1, wr_num w1 (by omega), m1, e_ratio (show (0 : Int) < 1 by decide) (show Bd 8000 1 from by show (1 : Nat) < 2 ^ 8000; decide +kernel)
theorem e_ratio_in (h : t.length ≤ 500) : F_ratio_in [.str t] = .ok (match ratT t with | some p => (rat p.1 p.2, false) | none => (.non, false)) := by
  rw [o_ratio_in]
  have c1 : cut t none (some 1) = t.take 1 := by
    unfold cut sIx
    dsimp only
    rw [List.drop_zero, Nat.sub_zero]
    cases t with
    | nil => rfl
    | cons x xs =>
      show (x :: xs).take (min 1 (xs.length + 1)) = _
      rw [Nat.min_eq_left (by omega)]
  have c2 : cut t (some 1) none = t.drop 1 := by
    unfold cut sIx
    dsimp only
    cases t with
    | nil => rfl
    | cons x xs =>
      show ((x :: xs).drop (min 1 (xs.length + 1))).take (xs.length + 1 - min 1 (xs.length + 1)) = _
      rw [Nat.min_eq_left (by omega), Nat.add_sub_cancel]
      exact List.take_length
  have hs : sliceD none (some 1) (.str t) = .ok (.str (t.take 1), false) := by
    unfold sliceD
    dsimp only
    rw [if_pos (by omega), c1]; rfl
  have hl1 : (t.drop 1).length ≤ 500 := by rw [List.length_drop]; omega
  unfold ratT
  by_cases q : t.take 1 = [45]
  · have q1 : decide (t.take 1 = [45]) = true := decide_eq_true q
    rw [if_pos q, if_pos q]
    exists e_ratio, hs, q1
    rw [c2]
    exact rin_tail (.inr rfl) hl1
  · have q1 : decide (t.take 1 = [45]) = false := decide_eq_false q
    rw [if_neg q, if_neg q]
    exists e_ratio, hs, q1
    exact rin_tail (.inl rfl) h
end

--#NEW
/-! ### plain values -/
mutual
def pl : Nat → Nat → D → Bool
  | _, _, .non => true
  | _, _, .bl _ => true
  | _, _, .int i => decide (i.natAbs ≤ 1000)
  | _, _, .str l => sok l && decide (l.length ≤ 100)
  | n + 1, w, .tup xs => decide (xs.length ≤ w) && pls n w xs
  | n + 1, w, .lst xs => decide (xs.length ≤ w) && pls n w xs
  | _, _, _ => false
def pls : Nat → Nat → List D → Bool
  | _, _, [] => true
  | n, w, x :: xs => pl n w x && pls n w xs
end
theorem pls_iff {n w : Nat} : ∀ {xs : List D}, pls n w xs = true ↔ ∀ x ∈ xs, pl n w x = true
  | [] => by simp [pls]
  | x :: xs => by rw [pls, Bool.and_eq_true, pls_iff]; simp
theorem pl_tup {n w : Nat} {xs : List D} (h : pl n w (.tup xs) = true) : ∃ m, n = m + 1 ∧ xs.length ≤ w ∧ ∀ x ∈ xs, pl m w x = true := by
  cases n with
  | zero => cases h
  | succ m =>
    rw [pl, Bool.and_eq_true, pls_iff, decide_eq_true_eq] at h
    exact ⟨m, rfl, h⟩
theorem pl_lst {n w : Nat} {xs : List D} (h : pl n w (.lst xs) = true) : ∃ m, n = m + 1 ∧ xs.length ≤ w ∧ ∀ x ∈ xs, pl m w x = true := by
  cases n with
  | zero => cases h
  | succ m =>
    rw [pl, Bool.and_eq_true, pls_iff, decide_eq_true_eq] at h
    exact ⟨m, rfl, h⟩
theorem pl_any {n w : Nat} {d : D} {P : Prop} (h : pl n w d = true) (h0 : d = .non → P) (h1 : ∀ b, d = .bl b → P) (h2 : ∀ i, d = .int i → i.natAbs ≤ 1000 → P) (h3 : ∀ s, d = .str s → sok s = true → s.length ≤ 100 → P) (h4 : ∀ xs, d = .tup xs → P) (h5 : ∀ xs, d = .lst xs → P) : P := by
  cases d with
  | non => exact h0 rfl
  | bl b => exact h1 b rfl
  | int i => exact h2 i rfl (by simpa [pl] using h)
  | str s =>
    rw [show pl n w (.str s) = (sok s && decide (s.length ≤ 100)) by cases n <;> rfl, Bool.and_eq_true, decide_eq_true_eq] at h
    exact h3 s rfl h.1 h.2
  | tup xs => exact h4 xs rfl
  | lst xs => exact h5 xs rfl
  | _ => cases n <;> cases h
theorem str_pl {n w : Nat} {s : List Nat} (h : sok s = true) (h2 : s.length ≤ 100) : pl n w (.str s) = true := by
  rw [show pl n w (.str s) = (sok s && decide (s.length ≤ 100)) by cases n <;> rfl, h, decide_eq_true h2]; rfl
theorem pl_dok : ∀ {n m w : Nat} {d : D}, n ≤ m → pl n w d = true → dok m d = true := by
  intro n
  induction n with
  | zero =>
    intro m w d _ h
    refine pl_any h (fun e => ?_) (fun b e => ?_) (fun i e z => ?_) (fun s e z1 z2 => ?_) (fun xs e => ?_) (fun xs e => ?_) <;> subst e
    · cases m <;> rfl
    · cases m <;> rfl
    · cases m <;> rfl
    · cases m <;> exact z1
    · cases h
    · cases h
  | succ n ih =>
    intro m w d hm h
    refine pl_any h (fun e => ?_) (fun b e => ?_) (fun i e z => ?_) (fun s e z1 z2 => ?_) (fun xs e => ?_) (fun xs e => ?_) <;> subst e
    · cases m <;> rfl
    · cases m <;> rfl
    · cases m <;> rfl
    · cases m <;> exact z1
    · obtain ⟨k, e, h1, h2⟩ := pl_tup h
      cases e
      obtain ⟨m, rfl⟩ : ∃ k, m = k + 1 := ⟨m - 1, by omega⟩
      show doks m xs = true
      exact doks_all fun x hx => ih (by omega) (h2 x hx)
    · obtain ⟨k, e, h1, h2⟩ := pl_lst h
      cases e
      obtain ⟨m, rfl⟩ : ∃ k, m = k + 1 := ⟨m - 1, by omega⟩
      show doks m xs = true
      exact doks_all fun x hx => ih (by omega) (h2 x hx)

--#NEW
/-! ### the texts of plain values -/
def wt (d : D) : Nat := (toP d).weight
def wts (xs : List D) : Nat := PySem.PyData.weightAll (toPs xs)
theorem wts_nil : wts [] = 0 := rfl
theorem wts_cons {x : D} {xs : List D} : wts (x :: xs) = wt x + 1 + wts xs := rfl
theorem wt_str {s : List Nat} : wt (.str s) = s.length := by show (S s).cps.size = _; exact List.size_toArray
theorem wts_app : ∀ {xs ys : List D}, wts (xs ++ ys) = wts xs + wts ys
  | [], ys => by rw [wts_nil, List.nil_append, Nat.zero_add]
  | x :: xs, ys => by rw [List.cons_append, wts_cons, wts_cons, wts_app]; omega
theorem wts_rev : ∀ {xs : List D}, wts xs.reverse = wts xs
  | [] => rfl
  | x :: xs => by rw [List.reverse_cons, wts_app, wts_rev, wts_cons, wts_cons, wts_nil]; omega
/-- every sign of a text is one -/
def okc (z : PySem.Str) : Prop := ∀ c ∈ z.cps.toList, c < 1114112
theorem okc_app {a b : PySem.Str} (ha : okc a) (hb : okc b) : okc (a ++ b) := by
  intro c hc
  have e : (a ++ b).cps.toList = a.cps.toList ++ b.cps.toList := by
    show (a.cps ++ b.cps).toList = _
    simp
  rw [e] at hc
  rcases List.mem_append.mp hc with h | h
  · exact ha c h
  · exact hb c h
theorem okc_dec {z : PySem.Str} (h : (z.cps.toList.all fun c => decide (c < 1114112)) = true) : okc z := fun c hc => by
  rw [List.all_eq_true] at h
  exact of_decide_eq_true (h c hc)
theorem okc_reprChar (q c : Nat) (hq : q < 1114112) (hc : c < 1114112) : ∀ x ∈ PySem.Builtin.Str.reprChar q c, x < 1114112 := by
  have hx : ∀ (w : Nat), ∀ x ∈ List.replicate (w - ((Nat.toDigits 16 c).map Char.toNat).length) 48 ++ (Nat.toDigits 16 c).map Char.toNat, x < 1114112 := by
    intro w x h
    rcases List.mem_append.mp h with h | h
    · rw [(List.mem_replicate.mp h).2]; decide
    · obtain ⟨d, _, rfl⟩ := List.mem_map.mp h
      have := d.valid
      unfold UInt32.isValidChar Nat.isValidChar at this
      show d.val.toNat < 1114112
      omega
  intro x h
  unfold PySem.Builtin.Str.reprChar at h
  dsimp only at h
  split at h
  · simp at h; omega
  split at h
  · simp at h; omega
  split at h
  · simp at h; omega
  split at h
  · simp at h; omega
  split at h
  · simp at h; omega
  split at h
  · rcases List.mem_append.mp h with h | h
    · simp at h; omega
    · exact hx 2 x h
  split at h
  · rcases List.mem_append.mp h with h | h
    · simp at h; omega
    · exact hx 4 x h
  · rcases List.mem_append.mp h with h | h
    · simp at h; omega
    · exact hx 8 x h
theorem okc_reprText {z : PySem.Str} (h : okc z) : okc (PySem.reprText z) := by
  have hq : PySem.reprQuote z < 1114112 := by unfold PySem.reprQuote; split <;> decide
  intro c hc
  unfold PySem.reprText at hc
  have key : ∀ (l : List Nat) (acc : Array Nat), (∀ c ∈ l, c < 1114112) → (∀ c ∈ acc.toList, c < 1114112) → ∀ c ∈ (l.foldl (fun out c => out ++ (PySem.Builtin.Str.reprChar (PySem.reprQuote z) c).toArray) acc).toList, c < 1114112 := by
    intro l
    induction l with
    | nil => intro acc _ h; exact h
    | cons x l ih =>
      intro acc h1 h2
      refine ih _ (fun c hc => h1 c (List.mem_cons_of_mem _ hc)) fun c hc => ?_
      simp at hc
      rcases hc with hc | hc
      · exact h2 c (by simpa using hc)
      · exact okc_reprChar _ _ hq (h1 x (List.mem_cons_self ..)) c hc
  simp only [Array.toList_push, ← Array.foldl_toList] at hc
  rcases List.mem_append.mp hc with hc | hc
  · exact key _ _ h (by intro c hc; simp at hc; omega) c hc
  · simp at hc; omega
theorem okc_from : ∀ (ts : List PySem.Str) (k : Nat) (acc : PySem.Str), okc acc → (∀ t ∈ ts, okc t) → okc (PySem.textFrom k acc ts)
  | [], k, acc, h, _ => h
  | t :: r, k, acc, h, ht => by
    refine okc_from r (k + 1) _ (okc_app (okc_app h ?_) (ht t (List.mem_cons_self ..))) fun x hx => ht x (List.mem_cons_of_mem _ hx)
    split <;> exact okc_dec (by decide +kernel)
theorem okc_list {ts : List PySem.Str} (h : ∀ t ∈ ts, okc t) : okc (PySem.listText ts) := okc_app (okc_from ts 0 _ (okc_dec (by decide +kernel)) h) (okc_dec (by decide +kernel))
theorem okc_join {sep : PySem.Str} (hs : okc sep) : ∀ {ts : List PySem.Str}, (∀ t ∈ ts, okc t) → okc (sep.join ts)
  | [], _ => okc_dec rfl
  | [x], h => h x (List.mem_cons_self ..)
  | x :: y :: r, h => okc_app (okc_app (h x (List.mem_cons_self ..)) hs) (okc_join hs fun t ht => h t (List.mem_cons_of_mem _ ht))
theorem okc_tuple {ts : List PySem.Str} (h : ∀ t ∈ ts, okc t) : okc (PySem.tupleText ts) := by
  unfold PySem.tupleText
  refine okc_app (okc_app (okc_dec (by decide +kernel)) (okc_join (okc_dec (by decide +kernel)) h)) ?_
  split <;> exact okc_dec (by decide +kernel)
theorem okc_int (i : Int) : okc (PySem.PyData.int i).shown := fun c hc => by
  by_cases h : c < 1114112
  · exact h
  · exact absurd hc (PyProof.Rows.shown_int_free' ⟨by omega, by omega⟩ i)
theorem shownAll_map : ∀ xs : List D, PySem.PyData.shownAll (toPs xs) = xs.map fun x => (toP x).shown
  | [] => rfl
  | x :: xs => by rw [List.map_cons, ← shownAll_map xs]; rfl
theorem pl_shown : ∀ {n w : Nat} {d : D}, pl n w d = true → okc (toP d).shown ∧ (toP d).showable = true ∧ (toP d).hasDict = false ∧ (toP d).leavesShort 13 = true := by
  have hi : ∀ {i : Int}, i.natAbs ≤ 1000 → okc (toP (.int i)).shown ∧ (toP (.int i)).showable = true ∧ (toP (.int i)).hasDict = false ∧ (toP (.int i)).leavesShort 13 = true := fun {i} h => by
    refine ⟨okc_int i, ?_, rfl, decide_eq_true (PySem.PyData.shown_int_le (i := i) (by omega))⟩
    show decide (i.natAbs.log2 < 1920) = true
    refine decide_eq_true ?_
    by_cases z : i.natAbs = 0
    · rw [z]; decide
    · rw [Nat.log2_lt z]; exact Nat.lt_of_le_of_lt h (by decide)
  have hs : ∀ {s : List Nat}, sok s = true → okc (toP (.str s)).shown ∧ (toP (.str s)).showable = true ∧ (toP (.str s)).hasDict = false ∧ (toP (.str s)).leavesShort 13 = true := fun {s} h => by
    unfold sok at h
    rw [List.all_eq_true] at h
    have e : (S s).cps.toList = s := by show s.toArray.toList = s; simp
    refine ⟨okc_reprText (z := S s) fun c hc => ?_, rfl, rfl, ?_⟩
    · rw [e] at hc; exact of_decide_eq_true (h c hc)
    · show ((S s).cps.toList.all fun c => decide (c < 16 ^ 8)) = true
      rw [e, List.all_eq_true]
      intro c hc
      have := of_decide_eq_true (h c hc)
      exact decide_eq_true (Nat.lt_of_lt_of_le this (by decide))
  have hl : ∀ {xs : List D}, (∀ x ∈ xs, okc (toP x).shown ∧ (toP x).showable = true ∧ (toP x).hasDict = false ∧ (toP x).leavesShort 13 = true) → (∀ t ∈ PySem.PyData.shownAll (toPs xs), okc t) ∧ PySem.PyData.showableAll (toPs xs) = true ∧ PySem.PyData.hasDictAll (toPs xs) = false ∧ PySem.PyData.leavesShortAll 13 (toPs xs) = true := fun {xs} h => by
    refine ⟨fun t ht => ?_, ?_⟩
    · rw [shownAll_map] at ht
      obtain ⟨x, hx, rfl⟩ := List.mem_map.mp ht
      exact (h x hx).1
    · induction xs with
      | nil => exact ⟨rfl, rfl, rfl⟩
      | cons x xs ih =>
        obtain ⟨a, b, c⟩ := ih fun y hy => h y (List.mem_cons_of_mem _ hy)
        obtain ⟨_, a', b', c'⟩ := h x (List.mem_cons_self ..)
        refine ⟨?_, ?_, ?_⟩
        · show ((toP x).showable && PySem.PyData.showableAll (toPs xs)) = true
          rw [a, a']; rfl
        · show ((toP x).hasDict || PySem.PyData.hasDictAll (toPs xs)) = false
          rw [b, b']; rfl
        · show ((toP x).leavesShort 13 && PySem.PyData.leavesShortAll 13 (toPs xs)) = true
          rw [c, c']; rfl
  have hb : ∀ b, okc (toP (.bl b)).shown := fun b => by cases b <;> exact okc_dec (by decide +kernel)
  intro n
  induction n with
  | zero =>
    intro w d h
    refine pl_any h (fun e => ?_) (fun b e => ?_) (fun i e z => ?_) (fun s e z1 z2 => ?_) (fun xs e => ?_) (fun xs e => ?_) <;> subst e
    · exact ⟨okc_dec (by decide +kernel), rfl, rfl, rfl⟩
    · exact ⟨hb b, rfl, rfl, rfl⟩
    · exact hi z
    · exact hs z1
    · cases h
    · cases h
  | succ n ih =>
    intro w d h
    refine pl_any h (fun e => ?_) (fun b e => ?_) (fun i e z => ?_) (fun s e z1 z2 => ?_) (fun xs e => ?_) (fun xs e => ?_) <;> subst e
    · exact ⟨okc_dec (by decide +kernel), rfl, rfl, rfl⟩
    · exact ⟨hb b, rfl, rfl, rfl⟩
    · exact hi z
    · exact hs z1
    · obtain ⟨k, e, h1, h2⟩ := pl_tup h
      cases e
      obtain ⟨a, b⟩ := hl fun x hx => ih (h2 x hx)
      exact ⟨okc_tuple a, b⟩
    · obtain ⟨k, e, h1, h2⟩ := pl_lst h
      cases e
      obtain ⟨a, b⟩ := hl fun x hx => ih (h2 x hx)
      exact ⟨okc_list a, b⟩
/-- repr of a plain value -/
def rpS (d : D) : List Nat := (toP d).shown.cps.toList
theorem rpS_ok {n w : Nat} {d : D} (h : pl n w d = true) : sok (rpS d) = true := by
  unfold sok rpS
  rw [List.all_eq_true]
  intro c hc
  exact decide_eq_true ((pl_shown h).1 c hc)
theorem e_repr {n w : Nat} {d : D} (h : pl n w d = true) (hn : n ≤ 40) (hw : wt d ≤ 6600) : reprA [d] = .ok (.str (rpS d), false) := by
  obtain ⟨h1, h2, h3, h4⟩ := pl_shown h
  have hl := PySem.PyData.shown_le 13 (by decide) (toP d) h4
  have hz : (toP d).shown.cps.size ≤ 100000 := by
    have : (toP d).shown.length ≤ 15 * wt d + 13 := hl
    have e : (toP d).shown.cps.size = (toP d).shown.length := rfl
    omega
  have hd := pl_dok (m := 40) hn h
  have seq : seqD d = true → reprD [d] = .ok (.str (rpS d), false) := fun q => by
    unfold reprD
    exact if_pos ⟨q, hd, h2, h3, Nat.le_trans (dok_p 40 d hd).2 (by decide), hz⟩
  refine pl_any h (fun e => ?_) (fun b e => ?_) (fun i e z => ?_) (fun s e z1 z2 => ?_) (fun xs e => ?_) (fun xs e => ?_) <;> subst e
  · exact congrArg (fun l => R.ok (D.str l, false)) (by decide +kernel : [78, 111, 110, 101] = rpS .non)
  · cases b
    · exact congrArg (fun l => R.ok (D.str l, false)) (by decide +kernel : [70, 97, 108, 115, 101] = rpS (.bl false))
    · exact congrArg (fun l => R.ok (D.str l, false)) (by decide +kernel : [84, 114, 117, 101] = rpS (.bl true))
  · have q : i.natAbs.log2 < 1920 := of_decide_eq_true h2
    show reprXD [.int i] = _
    unfold reprXD
    exact if_pos q
  · have q : (PySem.reprText (S s)).length ≤ 100000 := hz
    show reprXD [.str s] = _
    unfold reprXD
    exact if_pos q
  · exact seq rfl
  · exact seq rfl

--#NEW
/-! ### texts of integers -/
theorem figs_S (i : Int) : figs i = ((toString i : PySem.Str)).cps.toList := by
  rw [figs_eq]
  exact (tl_S (figs i)).symm
theorem figs_nat (n : Nat) : figs (n : Int) = (Nat.toDigits 10 n).map Char.toNat := by
  rw [figs_S]
  exact PySem.W.KIN.signs_num n
theorem figs_val (n : Nat) : valN (figs (n : Int)) = n := by
  rw [figs_nat]
  exact PySem.W.KIN.val_back n
theorem figs_dg (n : Nat) : (figs (n : Int)).all dgB = true := by
  rw [figs_nat, List.all_eq_true]
  intro c hc
  obtain ⟨ch, hch, rfl⟩ := List.mem_map.mp hc
  have hd := Nat.isDigit_of_mem_toDigits (by decide) (by decide) hch
  unfold Char.isDigit at hd
  rw [Bool.and_eq_true, decide_eq_true_eq, decide_eq_true_eq] at hd
  unfold dgB
  rw [Bool.and_eq_true, decide_eq_true_eq, decide_eq_true_eq]
  exact ⟨hd.1, hd.2⟩
theorem figs_ne (n : Nat) : figs (n : Int) ≠ [] := by
  rw [figs_nat]
  intro e
  have h := PySem.toDigits_len_ge 10 n
  rw [List.map_eq_nil_iff.mp e] at h
  exact absurd h (by decide)
theorem figs_len {n k : Nat} (hk : 1 ≤ k) (hn : n < 10 ^ k) : (figs (n : Int)).length ≤ k := by
  rw [figs_nat, List.length_map]
  exact PyProof.Rows.digits10_le hk hn
theorem all_dg {l : List Nat} (h : l.all dgB = true) : PySem.NumText.AllDigits l := fun c hc => by
  have := List.all_eq_true.mp h c hc
  unfold dgB at this
  rw [Bool.and_eq_true, decide_eq_true_eq, decide_eq_true_eq] at this
  exact this
theorem figs_head (n : Nat) : figs (n : Int) = [48] ∨ (figs (n : Int)).head? ≠ some 48 := by
  have h := PySem.NumText.toDigits_all (figs (n : Int)) (all_dg (figs_dg n))
  have hv : PySem.NumText.digitsVal (figs (n : Int)) = n := figs_val n
  rw [hv] at h
  have e := figs_nat n
  rw [h] at e
  cases hd : (figs (n : Int)).dropWhile (· == 48) with
  | nil => rw [hd] at e; exact .inl e
  | cons c r =>
    rw [hd] at e
    have l1 := congrArg List.length e
    simp only [List.length_map] at l1
    have l2 : (c :: r).length = (figs (n : Int)).length := l1.symm
    refine .inr fun hh => ?_
    cases hf : figs (n : Int) with
    | nil => exact figs_ne n hf
    | cons a s =>
      rw [hf] at hd hh l2
      injection hh with hh
      subst hh
      rw [List.dropWhile_cons] at hd
      simp only [beq_self_eq_true, if_true] at hd
      have := (List.dropWhile_sublist (· == 48) (l := s)).length_le
      rw [hd] at this
      simp only [List.length_cons] at this l2
      omega
theorem figs_wr (n : Nat) : wrB (figs (n : Int)) = true := by
  unfold wrB
  rw [figs_dg n]
  have h1 : (figs (n : Int)).isEmpty = false := by
    cases h : figs (n : Int) with
    | nil => exact absurd h (figs_ne n)
    | cons a s => rfl
  rw [h1]
  rcases figs_head n with h | h
  · rw [decide_eq_true h]; rfl
  · rw [decide_eq_false h]; simp
theorem figs_neg (n : Nat) : figs (-((n + 1 : Nat) : Int)) = 45 :: figs ((n + 1 : Nat) : Int) := by
  have e : (toString (-((n + 1 : Nat) : Int))) = "-" ++ toString ((n + 1 : Nat) : Int) := rfl
  unfold figs
  rw [e, String.toList_append, List.map_append]
  rfl
theorem dg_45 {l : List Nat} (h : l.all dgB = true) : 45 ∉ l := fun z => by
  have := all_dg h 45 z
  omega
theorem dg_47 {l : List Nat} (h : l.all dgB = true) : 47 ∉ l := fun z => by
  have := all_dg h 47 z
  omega
/-- by sign -/
theorem figs_cases (i : Int) : (0 ≤ i ∧ figs i = figs (i.natAbs : Int)) ∨ (i < 0 ∧ figs i = 45 :: figs (i.natAbs : Int)) := by
  by_cases h : 0 ≤ i
  · refine .inl ⟨h, ?_⟩
    rw [Int.natAbs_of_nonneg h]
  · refine .inr ⟨by omega, ?_⟩
    obtain ⟨n, hn⟩ : ∃ n : Nat, i = -((n + 1 : Nat) : Int) := ⟨(-i - 1).toNat, by omega⟩
    subst hn
    rw [figs_neg]
    congr 2
theorem figs_47 (i : Int) : 47 ∉ figs i := by
  rcases figs_cases i with ⟨_, e⟩ | ⟨_, e⟩
  · rw [e]; exact dg_47 (figs_dg _)
  · rw [e]
    intro z
    rcases List.mem_cons.mp z with z | z
    · exact absurd z (by decide)
    · exact dg_47 (figs_dg _) z
theorem figs_ne' (i : Int) : figs i ≠ [] := by
  rcases figs_cases i with ⟨_, e⟩ | ⟨_, e⟩
  · rw [e]; exact figs_ne _
  · rw [e]; exact fun z => nomatch z
theorem figs_lenI {i : Int} {k : Nat} (hk : 1 ≤ k) (h : i.natAbs < 10 ^ k) : (figs i).length ≤ k + 1 := by
  have := figs_len hk h
  rcases figs_cases i with ⟨_, e⟩ | ⟨_, e⟩
  · rw [e]; omega
  · rw [e, List.length_cons]; omega
theorem figs_sok (i : Int) : sok (figs i) = true := by
  have h : sok (figs (i.natAbs : Int)) = true := List.all_eq_true.mpr fun c hc => decide_eq_true (by have := (all_dg (figs_dg i.natAbs) c hc).2; omega)
  rcases figs_cases i with ⟨_, e⟩ | ⟨_, e⟩
  · rw [e]; exact h
  · rw [e]
    show (decide (45 < 1114112) && sok (figs (i.natAbs : Int))) = true
    rw [h]; rfl
/-- a bit of a text that is an integer -/
structure Gd (x : List Nat) (v : Int) : Prop where
  ne : x ≠ []
  ns : x ≠ [45]
  dg : (cutO 45 x).all dgB = true
  hd : 45 ∈ x → x.head? = some 45
  nu : numT x = some v
theorem isDg_of {l : List Nat} (h : l.all dgB = true) (hn : l ≠ []) : isDg l = true := by
  unfold isDg
  have h1 : l.isEmpty = false := by cases l with | nil => exact absurd rfl hn | cons a s => rfl
  rw [h1]
  show (l.all dgB && true) = true
  rw [h]; rfl
theorem numT_pos {l : List Nat} (h : l.all dgB = true) (hn : l ≠ []) : numT l = some (valN l : Int) := by
  unfold numT
  split
  · rename_i l'
    exact absurd (List.mem_cons_self ..) (dg_45 h)
  · rw [if_pos (isDg_of h hn)]
theorem numT_neg {l : List Nat} (h : l.all dgB = true) (hn : l ≠ []) : numT (45 :: l) = some (-(valN l : Int)) := by
  show (if isDg l then some (-(valN l : Int)) else none) = _
  rw [if_pos (isDg_of h hn)]
theorem cutO_hd {c : Nat} {l : List Nat} : cutO c (c :: l) = l := by
  unfold cutO
  rw [if_pos (List.mem_cons_self ..)]
  unfold bef beh
  rw [if_pos rfl, if_pos rfl]; rfl
theorem cutO_no {c : Nat} {l : List Nat} (h : c ∉ l) : cutO c l = l := if_neg h
theorem gd_figs (i : Int) : Gd (figs i) i := by
  have d := figs_dg i.natAbs
  have n := figs_ne i.natAbs
  rcases figs_cases i with ⟨h, e⟩ | ⟨h, e⟩
  · rw [e]
    refine ⟨n, fun z => ?_, ?_, fun z => absurd z (dg_45 d), ?_⟩
    · rw [z] at d; exact absurd d (by decide)
    · rw [cutO_no (dg_45 d)]; exact d
    · rw [numT_pos d n, figs_val]
      congr 1
      omega
  · rw [e]
    refine ⟨(fun z => nomatch z), fun z => ?_, ?_, fun _ => rfl, ?_⟩
    · injection z with _ z; exact n z
    · rw [cutO_hd]; exact d
    · rw [numT_neg d n, figs_val]
      congr 1
      omega
/-- a text that passes the looks is an integer -/
theorem gd_of {x : List Nat} (h1 : x ≠ []) (h2 : x ≠ [45]) (h3 : (cutO 45 x).all dgB = true) (h4 : 45 ∈ x → x.head? = some 45) : ∃ v, Gd x v := by
  by_cases q : 45 ∈ x
  · have := h4 q
    cases x with
    | nil => exact absurd rfl h1
    | cons a r =>
      injection this with this
      subst this
      rw [cutO_hd] at h3
      have hr : r ≠ [] := fun z => h2 (by rw [z])
      exact ⟨_, h1, h2, by rw [cutO_hd]; exact h3, h4, numT_neg h3 hr⟩
  · have h3' := h3
    rw [cutO_no q] at h3'
    exact ⟨_, h1, h2, h3, h4, numT_pos h3' h1⟩
theorem valN_bd {l : List Nat} (h : l.all dgB = true) (hl : l.length ≤ 60) : valN l < 10 ^ 60 := by
  have h1 := valN_le l 0 fun c hc => (all_dg h c hc).2
  refine Nat.lt_of_lt_of_le h1 ?_
  rw [Nat.zero_add, Nat.one_mul]
  exact Nat.pow_le_pow_right (by decide) hl
theorem Gd.bd {x : List Nat} {v : Int} (h : Gd x v) (hl : x.length ≤ 60) : v.natAbs < 10 ^ 60 := by
  by_cases q : 45 ∈ x
  · have := h.hd q
    cases x with
    | nil => exact absurd rfl h.ne
    | cons a r =>
      injection this with this
      subst this
      have h3 := h.dg
      rw [cutO_hd] at h3
      have hr : r ≠ [] := fun z => h.ns (by rw [z])
      have e := h.nu
      rw [numT_neg h3 hr] at e
      injection e with e
      subst e
      have := valN_bd h3 (by simp only [List.length_cons] at hl; omega)
      omega
  · have h3 := h.dg
    rw [cutO_no q] at h3
    have e := h.nu
    rw [numT_pos h3 h.ne] at e
    injection e with e
    subst e
    have := valN_bd h3 hl
    omega
theorem log_60 {v : Int} (h : v.natAbs < 10 ^ 60) : v.natAbs.log2 < 1920 := by
  by_cases q : v.natAbs = 0
  · rw [q]; decide
  · exact (Nat.log2_lt q).mpr (Nat.lt_trans h (by decide +kernel))
theorem bd_v {v : Int} (h : v.natAbs < 10 ^ 60) : Bd 8000 v := Nat.lt_trans h (by decide +kernel)
theorem gd_int {x : List Nat} {v : Int} (h : Gd x v) (hl : x.length ≤ 600) : intSD [.str x] = .ok (.int v, false) := by
  unfold intSD
  dsimp only
  rw [if_pos hl, h.nu]; rfl
theorem str_60 {own : D → R Rv} {v : Int} (h : v.natAbs < 10 ^ 60) : strD own [.int v] = .ok (.str (figs v), false) := str_i (log_60 h)
theorem fmt_60 {v : Int} (h : v.natAbs < 10 ^ 60) : fmtD (.int v) = .ok (.str (figs v), false) := if_pos (log_60 h)
/-- the text of a fraction -/
def ctx (n d : Int) : List Nat := if d = 1 then figs n else figs n ++ 47 :: figs d
theorem ratT_ctx {n d : Int} (h : 1 ≤ d) : ratT (ctx n d) = some (n, d) := by
  have dd : figs d = figs (d.natAbs : Int) := by rw [Int.natAbs_of_nonneg (by omega)]
  have wd := figs_wr d.natAbs
  have vd := figs_val d.natAbs
  rw [← dd] at wd vd
  have w := figs_wr n.natAbs
  have v := figs_val n.natAbs
  have dg := figs_dg n.natAbs
  have ne := figs_ne n.natAbs
  have n47 := dg_47 dg
  have key : ∀ (sg : Int) (r : List Nat), r = (if d = 1 then figs (n.natAbs : Int) else figs (n.natAbs : Int) ++ 47 :: figs d) → sg * (n.natAbs : Int) = n →
      (if 47 ∈ r then if wrB (bef 47 r) && wrB (beh 47 r) && decide (0 < valN (beh 47 r)) then some (sg * (valN (bef 47 r) : Int), (valN (beh 47 r) : Int)) else none
        else if wrB r then some (sg * (valN r : Int), 1) else none) = some (n, d) := fun sg r hr hs => by
    by_cases q : d = 1
    · rw [if_pos q] at hr
      subst hr
      rw [if_neg n47, if_pos w, v, hs, q]
    · rw [if_neg q] at hr
      subst hr
      have hb : bef 47 (figs (n.natAbs : Int) ++ 47 :: figs d) = figs (n.natAbs : Int) ∧ beh 47 (figs (n.natAbs : Int) ++ 47 :: figs d) = figs d := by
        clear w v dg ne hs
        generalize figs (n.natAbs : Int) = L at n47
        induction L with
        | nil => exact ⟨by show bef 47 (47 :: _) = []; unfold bef; rw [if_pos rfl], by show beh 47 (47 :: _) = _; unfold beh; rw [if_pos rfl]⟩
        | cons x xs ih =>
          have hx : x ≠ 47 := fun e => n47 (by rw [e]; exact List.mem_cons_self ..)
          obtain ⟨i1, i2⟩ := ih fun e => n47 (List.mem_cons_of_mem _ e)
          exact ⟨by show bef 47 (x :: (xs ++ 47 :: figs d)) = x :: xs; unfold bef; rw [if_neg hx, i1], by show beh 47 (x :: (xs ++ 47 :: figs d)) = figs d; unfold beh; rw [if_neg hx, i2]⟩
      rw [if_pos (List.mem_append_right _ (List.mem_cons_self ..)), hb.1, hb.2, w, wd, vd, v, hs]
      rw [decide_eq_true (by omega)]
      have : ((d.natAbs : Nat) : Int) = d := by omega
      rw [this]; rfl
  unfold ratT
  rcases figs_cases n with ⟨hn, e⟩ | ⟨hn, e⟩
  · have t1 : (ctx n d).take 1 ≠ [45] := by
      unfold ctx
      rw [e]
      cases hf : figs (n.natAbs : Int) with
      | nil => exact absurd hf ne
      | cons a s =>
        have : a ≠ 45 := fun z => dg_45 dg (by rw [hf, z]; exact List.mem_cons_self ..)
        split
        · intro z; injection z with z; exact this z
        · intro z; injection z with z; exact this z
    rw [if_neg t1, if_neg t1]
    refine key 1 _ (by unfold ctx; rw [e]) ?_
    omega
  · have t1 : (ctx n d).take 1 = [45] := by
      unfold ctx
      rw [e]
      split <;> rfl
    rw [if_pos t1, if_pos t1]
    refine key (-1) _ ?_ ?_
    · unfold ctx
      rw [e]
      split <;> rfl
    · omega
theorem splC_no {c : Nat} : ∀ {a : List Nat}, c ∉ a → splC c a = [a]
  | [], _ => rfl
  | x :: xs, h => by
    have hx : x ≠ c := fun e => h (e ▸ List.mem_cons_self ..)
    rw [splC_miss hx, splC_no fun e => h (List.mem_cons_of_mem _ e)]
theorem splC_app {c : Nat} {b : List Nat} : ∀ {a : List Nat}, c ∉ a → splC c (a ++ c :: b) = a :: splC c b
  | [], _ => by rw [List.nil_append, splC_hit rfl]
  | x :: xs, h => by
    have hx : x ≠ c := fun e => h (e ▸ List.mem_cons_self ..)
    rw [List.cons_append, splC_miss hx, splC_app fun e => h (List.mem_cons_of_mem _ e)]
theorem spl_ctx {n d : Int} : splC 47 (ctx n d) = if d = 1 then [figs n] else [figs n, figs d] := by
  unfold ctx
  split
  · exact splC_no (figs_47 n)
  · rw [splC_app (figs_47 n), splC_no (figs_47 d)]
theorem splC_mem {c : Nat} : ∀ {a : List Nat}, ∀ x ∈ splC c a, x.length ≤ a.length
  | [], x, h => by
    have : x ∈ [[]] := h
    rw [List.mem_singleton.mp this]; exact Nat.le_refl _
  | y :: ys, x, h => by
    by_cases e : y = c
    · rw [splC_hit e] at h
      rcases List.mem_cons.mp h with rfl | h
      · exact Nat.zero_le _
      · exact Nat.le_succ_of_le (splC_mem x h)
    · rw [splC_miss e] at h
      have ih := splC_mem (c := c) (a := ys)
      cases hs : splC c ys with
      | nil => exact absurd hs (splC_ne c ys)
      | cons z zs =>
        rw [hs] at h ih
        rcases List.mem_cons.mp h with rfl | h
        · have := ih z (List.mem_cons_self ..)
          simp only [List.length_cons]; omega
        · exact Nat.le_succ_of_le (ih x (List.mem_cons_of_mem _ h))
theorem ctx_sok {n d : Int} : sok (ctx n d) = true := by
  unfold ctx
  split
  · exact figs_sok n
  · show (figs n ++ 47 :: figs d).all _ = true
    rw [List.all_append]
    show (sok (figs n) && (decide (47 < 1114112) && sok (figs d))) = true
    rw [figs_sok, figs_sok]; rfl

local macro_rules | `(tactic| exists $es,*) => do
  let ls ← es.getElems.mapM fun e => `(Lean.Parser.Tactic.simpLemma| $e:term)
  `(tactic| simp -dsimp -implicitDefEqProofs (disch := walk_at "ds") only [bnd_ok, bnd_ex, bnd_bnd, Wn_ok, cnd_t, cnd_f, cnd_n, cnd_p, cnd_q, varG_sh, varG_ow, movG_sh, lookG_sh, lookG_ow, ownG_ow, get_0, get_s, set_0, set_s, ev_var, ev_mov0, ev_look, ev_c, ev_bin, ev_un, ev_bor, ev_borR, ev_bor1, ev_nil, ev_cons, ev_n, ev_if, ev_and, ev_or, notR_bl, ev_not, ev_callR, ev_callT, ev_nk, isL_ok, ev_mut, intR_i, ev_part0, ev_part1, ev_slice, seqk_nx, seqk_rt, ev_seq, ev_next, keep_tt, keep_tf, ev_asg, ev_par, ev_gN, ev_gTk, ev_g0, ev_g1, ev_asgT, ev_expr, ev_ret, ev_retV, ev_sif, ev_for, ev_while, ev_put, ev_fld, fldG_0, fldG_1, end_nx, end_rt, objE_go, ev_iv, items_lst, items_str, ev_range, rngG_1, forE_nx, forE_rt, LK_nx, LK_bk, cndO_none, cndO_some, ev_lc, add_i, add_s, add_l, sub_i, mul_i, fdiv_i, mod_i, pow_i, neg_i, lt_i, gt_i, ge_i, eq_i, eq_s, eq_o, ne_s, isN_n, isN_t, isN_o, sel_t, sel1_t, in_c, nin_c, ixt_0, ixt_1, ixt_2, ixl_0, ixl_1, ixl_2, sl_f, sl_s, len_l, len_f, len_s, isi_int_i, isi_bool_i, isi_str_s, isi_int_o, isi_o, abs_i, int_i, max_i, min_i, all_m, str_i, str_o, mkTup_e, mkLst_e, app_e, put_l0, put_l1, put_l2, fld_0, fld_1, wipe_0, wipe_s, okS_un, okS_sh, okS_us, noOw_0, noOw_s, back_0, back_s, getD_0, getD_s, strG_e, repl1_e, u_mt__law_bag_1, u_mt__law_bag_2, u_mt__law_bag_3, u_mm__law_bag, u_mm_is_integer, u_mt_shared_factor_1, u_mt_shared_factor_2, u_mm_shared_factor, u_mt_Ratio___init___1, u_mt_Ratio___init___2, u_mt_Ratio___init___3, u_mm_Ratio___init__, u_mm_as_ratio, u_mm_is_fraction, u_mt_Ratio___eq___1, u_mm_Ratio___eq__, u_mm_Ratio___str__, u_mm_is_written, u_mt_ratio_in_1, u_mt_ratio_in_2, u_mt_ratio_in_3, u_mm_ratio_in, u_mt_Ratio_read_1, u_mm_Ratio_read, u_mt__law_draw_1, u_mt__law_draw_2, u_mt__law_draw_3, u_mt__law_draw_4, u_mt__law_draw_5, u_mm__law_draw, u_mt__law_lowest_1, u_mt__law_lowest_2, u_mt__law_lowest_3, u_mm__law_lowest, u_mm__law_one, u_mm__law_written, u_mt__law_read_3, u_mt__law_read_4, u_mt__law_read_5, u_mt__law_read_6, u_mm__law_read, u_mt__law_right_1, u_mt__law_right_2, u_mt__law_right_3, u_mt__law_right_4, u_mt__law_right_5, u_mt__law_right_6, u_mt__law_right_7, u_mt__law_right_8, u_mt__law_right_9, u_mt__law_right_10, u_mt__law_right_11, u_mt__law_right_12, u_mm__law_right, u_mm_law, e_isint, e_ratio, decide_true, decide_false, if_true, if_false, Bool.not_true, Bool.not_false, List.length_cons, List.length_nil, Int.cast_ofNat_Int, List.nil_append, List.cons_append, List.append_nil, and_self, and_true, true_and, and_false, false_and, List.length_map, Int.reduceToNat, Int.reducePow, Int.reduceSub, Int.reduceAdd, Int.reduceMul, Int.reduceNeg, $ls,*])
--#NEW
/-! ### the law's reading -/
section
variable {t x y : List Nat} {n d v : Int}
theorem wt_e (hn : n.natAbs < 10 ^ 60) (hd : d.natAbs < 10 ^ 60) : F__law_written [.tup [.int n, .int d]] = .ok (.str (ctx n d), false) := by
  have l1 := figs_lenI (by decide) hn
  have l2 := figs_lenI (by decide) hd
  rw [o__law_written]
  by_cases q : d = 1
  · subst q
    exists str_60 hn
    unfold ctx
    rw [if_pos rfl]
  · exists str_60 hn, str_60 hd
    unfold ctx
    rw [if_neg q]
    simp
theorem cutO_mem {c a : Nat} {l : List Nat} (h : a ∈ cutO c l) : a ∈ l := by
  unfold cutO at h
  split at h
  · rename_i hc
    rw [bef_beh hc]
    rcases List.mem_append.mp h with h | h
    · exact List.mem_append_left _ h
    · exact List.mem_append_right _ (List.mem_cons_of_mem _ h)
  · exact h
/-- the signs of a bit that are none of a number -/
def badL (x : List Nat) : List D := (cutO 45 x).filterMap fun c => if dgB c then none else some (D.str [c])
theorem bad_lc (hl : x.length ≤ 100) (s0 s1 s4 : Slot) : lcS (gN 3) (some (eBin ninD (eVar 3) (eC (.str [48, 49, 50, 51, 52, 53, 54, 55, 56, 57])))) (eVar 3) [3] ((cutO 45 x).map fun c => D.str [c]) [s0, s1, .sh (.str x), .un, s4] = .ok ((.lst (badL x), true), [s0, s1, .sh (.str x), .un, s4]) := by
  have hc : (cutO 45 x).length ≤ 100 := Nat.le_trans cutO_len hl
  exact lc_eq (α := Nat) (mk := fun c => D.str [c]) (xs := cutO 45 x) (g := gN 3) (c := some (eBin ninD (eVar 3) (eC (.str [48, 49, 50, 51, 52, 53, 54, 55, 56, 57])))) (e := eVar 3) (vs := [3]) (ρ := [s0, s1, .sh (.str x), .un, s4]) (fun c => if dgB c then none else some (.str [c])) rfl (by omega) (fun c _ => ⟨[s0, s1, .sh (.str x), .sh (.str [c]), s4], by
    have hd := dg_mem c
    cases q : dgB c with
    | true =>
      rw [q] at hd
      exists hd
    | false =>
      rw [q] at hd
      exists hd
      rfl, rfl, rfl⟩)
theorem bad_ne (hs : sok x = true) : neD no2 (.lst (badL x)) (.lst []) = .ok (.bl (!(cutO 45 x).all dgB), false) := by
  have hd : dok dep (.lst (badL x)) = true := dok_lst fun z hz => by
    obtain ⟨c, hc, e⟩ := List.mem_filterMap.mp hz
    split at e
    · cases e
    · cases e
      have := List.all_eq_true.mp hs c (cutO_mem hc)
      show (decide (c < 1114112) && true) = true
      rw [this]; rfl
  rw [ne_g hd rfl]
  have key : ∀ l : List Nat, eqv (.lst (l.filterMap fun c => if dgB c then none else some (D.str [c]))) (.lst []) = l.all dgB := fun l => by
    induction l with
    | nil => rfl
    | cons c l ih =>
      rw [List.filterMap_cons, List.all_cons]
      cases dgB c with
      | true => exact ih
      | false => rfl
  rw [show eqv (.lst (badL x)) (.lst []) = (cutO 45 x).all dgB from key _]
/-- one bit -/
theorem bit_ok (hg : Gd x v) (hl : x.length ≤ 100) (hs : sok x = true) (s0 s1 s4 : Slot) : mt__law_read_1 [s0, s1, .sh (.str x), .un, s4] = .ok (.nx, [s0, s1, .sh (.str x), .un, s4]) := by
  have e1 := bad_lc hl s0 s1 s4
  have e2 := bad_ne hs
  rw [hg.dg] at e2
  rw [u_mt__law_read_1]
  by_cases q : 45 ∈ x
  · have hd := hg.hd q
    cases x with
    | nil => exact absurd rfl hg.ne
    | cons c r =>
      injection hd with hd
      subst hd
      exists e1, e2, ixs0 (show (45 :: r).length ≤ 100000 by omega)
  · exists e1, e2
theorem bit_bad (hn : x ≠ []) (hg : ¬ ((cutO 45 x).all dgB = true ∧ (45 ∈ x → x.head? = some 45))) (hl : x.length ≤ 100) (hs : sok x = true) (s0 s1 s4 : Slot) : mt__law_read_1 [s0, s1, .sh (.str x), .un, s4] = .ok (.rt (.non, false), [s0, s1, .sh (.str x), .un, s4]) := by
  have e1 := bad_lc hl s0 s1 s4
  have e2 := bad_ne hs
  rw [u_mt__law_read_1]
  cases q1 : (cutO 45 x).all dgB with
  | false =>
    rw [q1] at e2
    exists e1, e2
  | true =>
    rw [q1] at e2
    have h2 : ¬ (45 ∈ x → x.head? = some 45) := fun z => hg ⟨q1, z⟩
    have q : 45 ∈ x := Classical.byContradiction fun z => h2 fun w => absurd w z
    cases x with
    | nil => exact absurd rfl hn
    | cons c r =>
      have hc : ¬ [c] = [45] := fun z => h2 fun _ => by injection z with z; rw [z]; rfl
      exists e1, e2, ixs0 (show (c :: r).length ≤ 100000 by omega)
end

--#NEW
/-! ### the law's reading, whole -/
/-- what a text shows: the text of a fraction in lowest terms -/
def Low (n d : Int) : Prop := 1 ≤ d ∧ nm n d = n ∧ dn n d = d
instance {n d : Int} : Decidable (Low n d) := by unfold Low; infer_instance
def IsT (t : List Nat) : Prop := ∃ n d, Low n d ∧ ctx n d = t
section
variable {t x y : List Nat} {n d v : Int}
theorem nm_1 {v : Int} : nm v 1 = v ∧ dn v 1 = 1 := by
  have h := SL.gI_dvd_right v 1
  have g := SL.gI_pos (n := v) (d := 1) (by omega)
  have := Int.le_of_dvd (by omega) h
  have e : gI v 1 = 1 := by omega
  unfold nm dn
  rw [e, Int.ediv_one, Int.ediv_one]
  exact ⟨rfl, rfl⟩
theorem in_two {x : List Nat} (h : sok x = true) : inD (.str x) (.lst [.str [], .str [45]]) = .ok (.bl (decide (x = [] ∨ x = [45])), false) := by
  rw [in_l (by show (sok x && true) = true; rw [h]; rfl)]
  show R.ok (D.bl (eqv (.str []) (.str x) || (eqv (.str [45]) (.str x) || false)), false) = _
  rw [eqv_s, eqv_s, Bool.or_false, ← Bool.decide_or, decide_eq_decide.mpr (show ([] = x ∨ [45] = x) ↔ (x = [] ∨ x = [45]) by constructor <;> (rintro (z | z) <;> simp [z]))]
theorem ne_some {xs : List D} {x : D} (h : dok dep (.lst (x :: xs)) = true) : neD no2 (.lst (x :: xs)) (.lst []) = .ok (.bl true, false) := by
  rw [ne_g h rfl]; rfl
theorem ne_none : neD no2 (.lst []) (.lst []) = .ok (.bl false, false) := rfl
theorem dok_s1 {x : List Nat} (h : sok x = true) : dok dep (.lst [.str x]) = true := by
  show (sok x && true) = true
  rw [h]; rfl
theorem dok_s2 {x y : List Nat} (h : sok x = true) (g : sok y = true) : dok dep (.lst [.str x, .str y]) = true := by
  show (sok x && (sok y && true)) = true
  rw [h, g]; rfl
theorem ne_tup {a b c d : Int} : neD no2 (.tup [.int a, .int b]) (.tup [.int c, .int d]) = .ok (.bl (!(decide (a = c ∧ b = d))), false) := by
  rw [ne_g rfl rfl]
  show R.ok (D.bl (!(a == c && (b == d && true))), false) = _
  rw [Bool.and_true]
  congr 3
  rw [Bool.eq_iff_iff]
  simp
/-- behind the two numbers -/
theorem rd_end (hn : n.natAbs < 10 ^ 60) (hd : d.natAbs < 10 ^ 60) (s1 s2 s3 : Slot) : (bnd (mt__law_read_2 [.sh (.str t), s1, s2, s3, .sh (.tup [.int n, .int d])]) fun r => endOf r.1) = .ok (if Low n d ∧ ctx n d = t then (.tup [.int n, .int d], false) else (.non, false)) := by
  rw [u_mt__law_read_2]
  by_cases q : 1 ≤ d
  · have e1 := e_lowest (a := n) (b := d) (by omega) (bd_v hd)
    have e2 := ne_tup (a := nm n d) (b := dn n d) (c := n) (d := d)
    have e3 := wt_e hn hd
    have hq : ¬ d < 1 := by omega
    by_cases q2 : nm n d = n ∧ dn n d = d
    · rw [decide_eq_true q2] at e2
      by_cases q3 : ctx n d = t
      · have q4 : decide (ctx n d = t) = true := decide_eq_true q3
        rw [if_pos ⟨⟨q, q2⟩, q3⟩]
        exists e1, e2, e3, q4
      · have q4 : decide (ctx n d = t) = false := decide_eq_false q3
        rw [if_neg fun z => q3 z.2]
        exists e1, e2, e3, q4
    · rw [decide_eq_false q2] at e2
      rw [if_neg fun z => q2 z.1.2]
      exists e1, e2
  · have hq : d < 1 := by omega
    rw [if_neg fun z => q z.1.1]
    exists bnd_ok
theorem ctx_spl (h : IsT t) : (∃ n, splC 47 t = [figs n] ∧ t = ctx n 1) ∨ ∃ n d, splC 47 t = [figs n, figs d] ∧ Low n d ∧ t = ctx n d := by
  obtain ⟨n, d, hl, rfl⟩ := h
  rw [spl_ctx]
  by_cases q : d = 1
  · rw [if_pos q, q]; exact .inl ⟨n, rfl, rfl⟩
  · rw [if_neg q]; exact .inr ⟨n, d, rfl, hl, rfl⟩
theorem spl_sok {t : List Nat} (h : sok t = true) : ∀ x ∈ splC 47 t, sok x = true := by
  have : ∀ {c : Nat} (a : List Nat), ∀ x ∈ splC c a, ∀ z ∈ x, z ∈ a := fun {c} a => by
    induction a with
    | nil =>
      intro x hx z hz
      have : x ∈ [[]] := hx
      rw [List.mem_singleton.mp this] at hz; cases hz
    | cons b a ih =>
      intro x hx z hz
      by_cases e : b = c
      · rw [splC_hit e] at hx
        rcases List.mem_cons.mp hx with rfl | hx
        · cases hz
        · exact List.mem_cons_of_mem _ (ih x hx z hz)
      · rw [splC_miss e] at hx
        cases hs : splC c a with
        | nil => exact absurd hs (splC_ne c a)
        | cons y ys =>
          rw [hs] at hx ih
          rcases List.mem_cons.mp hx with rfl | hx
          · rcases List.mem_cons.mp hz with rfl | hz
            · exact List.mem_cons_self ..
            · exact List.mem_cons_of_mem _ (ih y (List.mem_cons_self ..) z hz)
          · exact List.mem_cons_of_mem _ (ih x (List.mem_cons_of_mem _ hx) z hz)
  intro x hx
  exact List.all_eq_true.mpr fun z hz => List.all_eq_true.mp h z (this t x hx z hz)
/-- the law reads just the texts of fractions -/
theorem e_read (hl : t.length ≤ 40) (hs : sok t = true) : (∃ n d, F__law_read [.str t] = .ok (.tup [.int n, .int d], false) ∧ IsT t) ∨ (F__law_read [.str t] = .ok (.non, false) ∧ ¬ IsT t) := by
  have hsp : splitD (.str t) (.str [47]) = .ok (.lst ((splC 47 t).map D.str), true) := by
    unfold splitD
    dsimp only
    rw [if_pos ⟨by omega, by decide⟩]
  have hk := spl_sok hs
  have hln := splC_mem (c := 47) (a := t)
  have hsh := ctx_spl (t := t)
  have fin : ∀ {n d : Int}, (F__law_read [.str t] = .ok (if Low n d ∧ ctx n d = t then (.tup [.int n, .int d], false) else (.non, false))) → (IsT t → Low n d ∧ ctx n d = t) → (∃ n d, F__law_read [.str t] = .ok (.tup [.int n, .int d], false) ∧ IsT t) ∨ (F__law_read [.str t] = .ok (.non, false) ∧ ¬ IsT t) := fun {n d} e g => by
    by_cases q : Low n d ∧ ctx n d = t
    · rw [if_pos q] at e
      exact .inl ⟨n, d, e, n, d, q.1, q.2⟩
    · rw [if_neg q] at e
      exact .inr ⟨e, fun z => q (g z)⟩
  match hb : splC 47 t with
  | [] => exact absurd hb (splC_ne 47 t)
  | [x] =>
    rw [hb] at hsp hk hln hsh
    have kx := hk x (by simp)
    have lx := hln x (by simp)
    have ei := in_two kx
    have isG : IsT t → Gd x (match numT x with | some v => v | none => 0) ∧ ∀ v, Gd x v → t = ctx v 1 := fun z => by
      rcases hsh z with ⟨n, e, ht⟩ | ⟨n, d, e, _⟩
      · injection e with e
        subst e
        have g := gd_figs n
        refine ⟨by rw [g.nu]; exact g, fun v gv => ?_⟩
        have := gv.nu
        rw [g.nu] at this
        injection this with this
        rw [← this]; exact ht
      · injection e with _ e; cases e
    by_cases q1 : x = [] ∨ x = [45]
    · rw [decide_eq_true q1] at ei
      have en := ne_some (xs := []) (dok_s1 kx)
      refine .inr ⟨?_, fun z => ?_⟩
      · rw [o__law_read]
        exists hsp, List.map_cons, List.map_nil, ei, en, lcS_lit, lcGo_s, lcGo_0, for_s, for_0
      · have g := (isG z).1
        rcases q1 with q1 | q1
        · exact g.ne q1
        · exact g.ns q1
    · rw [decide_eq_false q1] at ei
      have x1 : x ≠ [] := fun z => q1 (.inl z)
      have x2 : x ≠ [45] := fun z => q1 (.inr z)
      have en := ne_none
      by_cases q2 : (cutO 45 x).all dgB = true ∧ (45 ∈ x → x.head? = some 45)
      · obtain ⟨v, g⟩ := gd_of x1 x2 q2.1 q2.2
        have eb := bit_ok g (by omega) kx
        have ev := gd_int g (by omega)
        have er := rd_end (t := t) (n := v) (d := 1) (g.bd (by omega)) (by decide)
        refine fin (n := v) (d := 1) ?_ fun z => ⟨⟨by omega, nm_1⟩, ((isG z).2 v g).symm⟩
        rw [o__law_read]
        exists hsp, List.map_cons, List.map_nil, ei, en, eb, ev, er, lcS_lit, lcGo_s, lcGo_0, for_s, for_0
      · have eb := bit_bad x1 q2 (by omega) kx
        refine .inr ⟨?_, fun z => q2 ⟨(isG z).1.dg, (isG z).1.hd⟩⟩
        rw [o__law_read]
        exists hsp, List.map_cons, List.map_nil, ei, en, eb, lcS_lit, lcGo_s, lcGo_0, for_s, for_0
  | [x, y] =>
    rw [hb] at hsp hk hln hsh
    have kx := hk x (by simp)
    have lx := hln x (by simp)
    have ky := hk y (by simp)
    have ly := hln y (by simp)
    have ei := in_two kx
    have fi := in_two ky
    have isG : IsT t → ∃ n d, Gd x n ∧ Gd y d ∧ Low n d ∧ ctx n d = t := fun z => by
      rcases hsh z with ⟨n, e, _⟩ | ⟨n, d, e, hlo, ht⟩
      · injection e with _ e; cases e
      · injection e with e1 e2
        injection e2 with e2 _
        subst e1 e2
        exact ⟨n, d, gd_figs n, gd_figs d, hlo, ht.symm⟩
    by_cases q1 : x = [] ∨ x = [45]
    · rw [decide_eq_true q1] at ei
      refine .inr ⟨?_, fun z => ?_⟩
      · by_cases q2 : y = [] ∨ y = [45]
        · rw [decide_eq_true q2] at fi
          have en := ne_some (xs := [.str y]) (dok_s2 kx ky)
          rw [o__law_read]
          exists hsp, List.map_cons, List.map_nil, ei, fi, en, lcS_lit, lcGo_s, lcGo_0, for_s, for_0
        · rw [decide_eq_false q2] at fi
          have en := ne_some (xs := []) (dok_s1 kx)
          rw [o__law_read]
          exists hsp, List.map_cons, List.map_nil, ei, fi, en, lcS_lit, lcGo_s, lcGo_0, for_s, for_0
      · obtain ⟨n, d, g, _⟩ := isG z
        rcases q1 with q1 | q1
        · exact g.ne q1
        · exact g.ns q1
    · rw [decide_eq_false q1] at ei
      by_cases q2 : y = [] ∨ y = [45]
      · rw [decide_eq_true q2] at fi
        have en := ne_some (xs := []) (dok_s1 ky)
        refine .inr ⟨?_, fun z => ?_⟩
        · rw [o__law_read]
          exists hsp, List.map_cons, List.map_nil, ei, fi, en, lcS_lit, lcGo_s, lcGo_0, for_s, for_0
        · obtain ⟨n, d, _, g, _⟩ := isG z
          rcases q2 with q2 | q2
          · exact g.ne q2
          · exact g.ns q2
      · rw [decide_eq_false q2] at fi
        have x1 : x ≠ [] := fun z => q1 (.inl z)
        have x2 : x ≠ [45] := fun z => q1 (.inr z)
        have y1 : y ≠ [] := fun z => q2 (.inl z)
        have y2 : y ≠ [45] := fun z => q2 (.inr z)
        have en := ne_none
        by_cases q3 : (cutO 45 x).all dgB = true ∧ (45 ∈ x → x.head? = some 45)
        · obtain ⟨v, g⟩ := gd_of x1 x2 q3.1 q3.2
          have eb := bit_ok g (by omega) kx
          by_cases q4 : (cutO 45 y).all dgB = true ∧ (45 ∈ y → y.head? = some 45)
          · obtain ⟨w, gy⟩ := gd_of y1 y2 q4.1 q4.2
            have fb := bit_ok gy (by omega) ky
            have ev := gd_int g (by omega)
            have fv := gd_int gy (by omega)
            have er := rd_end (t := t) (n := v) (d := w) (g.bd (by omega)) (gy.bd (by omega))
            refine fin (n := v) (d := w) ?_ fun z => ?_
            · rw [o__law_read]
              exists hsp, List.map_cons, List.map_nil, ei, fi, en, eb, fb, ev, fv, er, lcS_lit, lcGo_s, lcGo_0, for_s, for_0
            · obtain ⟨n, d, g1, g2, hlo, ht⟩ := isG z
              have a1 := g1.nu
              have a2 := g2.nu
              rw [g.nu] at a1
              rw [gy.nu] at a2
              injection a1 with a1
              injection a2 with a2
              subst a1 a2
              exact ⟨hlo, ht⟩
          · have fb := bit_bad y1 q4 (by omega) ky
            refine .inr ⟨?_, fun z => ?_⟩
            · rw [o__law_read]
              exists hsp, List.map_cons, List.map_nil, ei, fi, en, eb, fb, lcS_lit, lcGo_s, lcGo_0, for_s, for_0
            · obtain ⟨n, d, _, g, _⟩ := isG z
              exact q4 ⟨g.dg, g.hd⟩
        · have eb := bit_bad x1 q3 (by omega) kx
          refine .inr ⟨?_, fun z => ?_⟩
          · rw [o__law_read]
            exists hsp, List.map_cons, List.map_nil, ei, fi, en, eb, lcS_lit, lcGo_s, lcGo_0, for_s, for_0
          · obtain ⟨n, d, g, _⟩ := isG z
            exact q3 ⟨g.dg, g.hd⟩
  | x :: y :: z :: r =>
    refine .inr ⟨?_, fun h => ?_⟩
    · rw [hb] at hsp
      have l2 : (2 : Int) < ((((x :: y :: z :: r).map D.str).length : Nat) : Int) := by simp only [List.length_map, List.length_cons]; omega
      rw [o__law_read]
      exists hsp
    · rcases ctx_spl h with ⟨n, e, _⟩ | ⟨n, d, e, _⟩
      · rw [hb] at e; injection e with _ e; cases e
      · rw [hb] at e; injection e with _ e; injection e with _ e; cases e
end

--#NEW
/-! ### puppets: their data -/
abbrev Sg := Nat × Nat × Wd
section
variable {ps : List Wd} {ts : List Tie} {hk : List Nat} {ss : List Sg} {w a b : Wd} {n : Nat} {r : Int}
theorem rng_from (lo : Int) (n : Nat) : rng lo n = (List.range n).map fun (i : Nat) => D.int (lo + i) := by
  induction n generalizing lo with
  | zero => rfl
  | succ n ih =>
    rw [rng, ih, List.range_succ_eq_map, List.map_cons, List.map_map]
    congr 1
    · simp
    · refine List.map_congr_left fun i _ => ?_
      show D.int (lo + 1 + i) = D.int (lo + ((i + 1 : Nat) : Int))
      congr 1
      omega
theorem rng_map (n : Nat) : rng 0 n = (List.range n).map fun (i : Nat) => D.int i := by
  rw [rng_from]
  refine List.map_congr_left fun i _ => ?_
  rw [Int.zero_add]
theorem all_true {α : Type} (l : List α) : allD [.lst (l.map fun _ => D.bl true)] = .ok (.bl true, false) := by
  have := all_m (l := l.map fun _ => true)
  rw [List.map_map] at this
  rw [show (l.map fun _ => D.bl true) = l.map (D.bl ∘ fun _ => true) from rfl, this]
  simp
end
/-! ### what is told -/
section
variable {F : D → R Rv} {ret : List Nat} {bs : List Bool} {m : Ev} {ρ ρ1 ρ2 : Env} {r : Rv} {d : D}
theorem told_ok (g : giveB bs ρ = ρ1) (e : m (maskB bs ρ1) = .ok (r, ρ2)) : eTold F ret bs m ρ = .ok ((.lst [.str ret, r.1], true), ρ1) := by
  subst g
  unfold eTold
  rw [e]
theorem told_ex (g : giveB bs ρ = ρ1) (e : m (maskB bs ρ1) = .ex d) (es : F d = .ok r) : eTold F ret bs m ρ = .ok (r, ρ1) := by
  subst g
  unfold eTold
  rw [e]
  show (F d >>= fun r => R.ok (r, giveB bs ρ)) = _
  rw [es]
  rfl
end

--#NEW
/-! ### the program's reading -/
theorem raise_v {c i : Nat} {ρ : Env} {x : D} (h : ρ[i]? = some (.sh x)) : sRaise c (eVar i) ρ = .ex (.ins c [x]) := by
  unfold sRaise val eVar
  rw [h]; rfl
theorem pF_of {F : Fn} {ds : List D} {r : Rv} (h : F ds = .ok r) : pF F ds = .ok r := npR_ok.mpr h
section
variable {t : List Nat} {n d : Int} {x : D}
theorem e_rstr (hn : n.natAbs < 10 ^ 60) (hd : d.natAbs < 10 ^ 60) : F_Ratio___str__ [.ins 0 [.int n, .int d]] = .ok (.str (ctx n d), false) := by
  have l1 := figs_lenI (by decide) hn
  have l2 := figs_lenI (by decide) hd
  rw [o_Ratio___str__]
  by_cases q : d = 1
  · subst q
    exists fmt_60 hn
    unfold ctx
    rw [if_pos rfl]
  · have e3 : fcat [.str (figs n), .str [47], .str (figs d)] = .ok (.str (figs n ++ ([47] ++ figs d)), false) := by
      show (if ([figs n, [47], figs d].map (·.length)).sum ≤ 100000 then str_ [figs n, [47], figs d].flatten else .no) = _
      rw [if_pos (by simp; omega)]
      show str_ (figs n ++ ([47] ++ (figs d ++ []))) = _
      rw [List.append_nil]; rfl
    exists fmt_60 hn, fmt_60 hd, e3
    unfold ctx
    rw [if_neg q]
    try rfl
theorem wr_all {l : List Nat} (h : wrB l = true) : l.all dgB = true := by
  unfold wrB at h
  rw [Bool.and_eq_true, Bool.and_eq_true] at h
  exact h.2.1
theorem ratT_bd (h : ratT t = some (n, d)) (hl : t.length ≤ 40) : n.natAbs < 10 ^ 60 ∧ 1 ≤ d ∧ d.natAbs < 10 ^ 60 := by
  unfold ratT at h
  have key : ∀ (sg : Int) (r : List Nat), (sg = 1 ∨ sg = -1) → r.length ≤ 60 →
      (if 47 ∈ r then if wrB (bef 47 r) && wrB (beh 47 r) && decide (0 < valN (beh 47 r)) then some (sg * (valN (bef 47 r) : Int), (valN (beh 47 r) : Int)) else none
        else if wrB r then some (sg * (valN r : Int), 1) else none) = some (n, d) → n.natAbs < 10 ^ 60 ∧ 1 ≤ d ∧ d.natAbs < 10 ^ 60 := fun sg r hs hr e => by
    have b1 := bef_len (c := 47) r
    have b2 := beh_len (c := 47) r
    split at e
    · split at e
      · rename_i _ w
        rw [Bool.and_eq_true, Bool.and_eq_true, decide_eq_true_eq] at w
        injection e with e
        injection e with e1 e2
        have v1 := valN_bd (wr_all w.1.1) (by omega)
        have v2 := valN_bd (wr_all w.1.2) (by omega)
        subst e1 e2
        rcases hs with rfl | rfl
        · exact ⟨by omega, by omega, by omega⟩
        · exact ⟨by omega, by omega, by omega⟩
      · cases e
    · split at e
      · rename_i _ w
        injection e with e
        injection e with e1 e2
        have v1 := valN_bd (wr_all w) hr
        subst e1 e2
        rcases hs with rfl | rfl
        · exact ⟨by omega, by omega, by decide⟩
        · exact ⟨by omega, by omega, by decide⟩
      · cases e
  by_cases q : t.take 1 = [45]
  · rw [if_pos q, if_pos q] at h
    exact key (-1) _ (.inr rfl) (by rw [List.length_drop]; omega) h
  · rw [if_neg q, if_neg q] at h
    exact key 1 _ (.inl rfl) (by omega) h
theorem low_nd (h : 0 < d) : Low (nm n d) (dn n d) := by
  have e := SL.low_one (n1 := n) (d1 := d) h
  exact ⟨SL.dn_pos h, e.1, e.2⟩
theorem isT_rat (h : IsT t) : ∃ n d, ratT t = some (n, d) ∧ Low n d ∧ ctx n d = t := by
  obtain ⟨n, d, hl, rfl⟩ := h
  exact ⟨n, d, ratT_ctx hl.1, hl, rfl⟩
theorem e_rread (hl : t.length ≤ 40) : (IsT t → ∃ n d, Low n d ∧ ctx n d = t ∧ n.natAbs < 10 ^ 60 ∧ d.natAbs < 10 ^ 60 ∧ F_Ratio_read [.str t] = .ok (.ins 0 [.int n, .int d], false)) ∧ (¬ IsT t → F_Ratio_read [.str t] = .ex (.ins 22 [.str t])) := by
  have e0 := e_ratio_in (t := t) (by omega)
  have er : ∀ s1 : Slot, sRaise 22 (eVar 0) [.sh (.str t), s1] = .ex (.ins 22 [.str t]) := fun s1 => raise_v rfl
  cases hr : ratT t with
  | none =>
    rw [hr] at e0
    have e1 := pF_of e0
    refine ⟨fun z => ?_, fun _ => ?_⟩
    · obtain ⟨n, d, e, _⟩ := isT_rat z
      rw [hr] at e; cases e
    · rw [o_Ratio_read]
      exists e1, er
  | some p =>
    obtain ⟨n, d⟩ := p
    rw [hr] at e0
    have e1 : pF F_ratio_in [.str t] = .ok (.ins 0 [.int (nm n d), .int (dn n d)], false) := pF_of e0
    obtain ⟨b1, b2, b3⟩ := ratT_bd hr hl
    have c1 : (nm n d).natAbs < 10 ^ 60 := Nat.lt_of_le_of_lt (Int.natAbs_ediv_le_natAbs n (gI n d)) b1
    have c2 : (dn n d).natAbs < 10 ^ 60 := Nat.lt_of_le_of_lt (Int.natAbs_ediv_le_natAbs d (gI n d)) b3
    have es := e_rstr c1 c2
    by_cases q : ctx (nm n d) (dn n d) = t
    · have q2 : decide (ctx (nm n d) (dn n d) = t) = true := decide_eq_true q
      have lo := low_nd (n := n) (d := d) (by omega)
      refine ⟨fun _ => ⟨nm n d, dn n d, lo, q, c1, c2, ?_⟩, fun z => absurd ⟨_, _, lo, q⟩ z⟩
      rw [o_Ratio_read]
      exists e1, es, q2
    · have q2 : decide (ctx (nm n d) (dn n d) = t) = false := decide_eq_false q
      refine ⟨fun z => ?_, fun _ => ?_⟩
      · obtain ⟨a, b, e, lo, ec⟩ := isT_rat z
        rw [hr] at e
        injection e with e
        injection e with ea eb
        subst ea eb
        exact absurd (by rw [lo.2.1, lo.2.2]; exact ec) q
      · rw [o_Ratio_read]
        exists e1, es, q2, er
theorem rread_no (h : isiD [x, .ty .str] = .ok (.bl false, false)) : F_Ratio_read [x] = .ex (.ins 22 [x]) := by
  have er : ∀ s1 : Slot, sRaise 22 (eVar 0) [.sh x, s1] = .ex (.ins 22 [x]) := fun s1 => raise_v rfl
  rw [o_Ratio_read]
  exists h, er
def noTx (t : List Nat) : Bool := match ratT t with
  | none => true
  | some p => !decide (Low p.1 p.2 ∧ ctx p.1 p.2 = t)
theorem noTx_ok (h : noTx t = true) : ¬ IsT t := fun z => by
  obtain ⟨n, d, e, lo, ec⟩ := isT_rat z
  unfold noTx at h
  rw [e] at h
  dsimp only at h
  rw [decide_eq_true ⟨lo, ec⟩] at h
  cases h
@[reducible] def invW : List Nat := [73, 110, 118, 97, 108, 105, 100, 84, 101, 120, 116]
@[reducible] def retW : List Nat := [114, 101, 116, 117, 114, 110, 101, 100]
theorem e_sortX {d : D} {s : List Nat} (er : reprA [d] = .ok (.str s, false)) : F__law_sort (.ins 22 [d]) = .ok (.lst [.str invW, .str s], false) := by
  have i1 : isxD 22 isxF [.cls 99, .cls 20] = .ok (.bl true, false) := rfl
  have i2 : isxD 22 isxF [.cls 99, .cls 44] = .ok (.bl false, false) := rfl
  have i3 : isxD 22 isxF [.cls 99, .cls 56] = .ok (.bl false, false) := rfl
  have i4 : isxD 22 isxF [.cls 99, .ty .xv] = .ok (.bl true, false) := rfl
  have i5 : isxD 22 isxF [.cls 99, .ty .xl] = .ok (.bl false, false) := rfl
  have i6 : isxD 22 isxF [.cls 99, .ty .xa] = .ok (.bl false, false) := rfl
  have i7 : isxD 22 isxF [.cls 99, .cls 22] = .ok (.bl true, false) := rfl
  have i8 : atxD 22 gx_value d (.cls 99) = .ok (d, false) := rfl
  have e : mkFn 4 1 (mm__law_sort 22 d) [.cls 99] = .ok (.lst [.str invW, .str s], false) := by
    rw [fn_eq (p := 1) (ds := [.cls 99]) rfl]
    show bnd (mm__law_sort 22 d [.sh (.cls 99), .un, .un, .un]) (fun r => endOf r.1) = _
    unfold mm__law_sort
    have j1 : eqD no2 (.lst [.bl true, .bl false, .bl false]) (.lst [.bl true, .bl false, .bl false]) = .ok (.bl true, false) := rfl
    have j2 : countB (.lst [.bl true, .bl false, .bl false]) (.bl true) = .ok (.int 1, false) := rfl
    exists i1, i2, i3, i4, i5, i6, i7, i8, er, j1, j2
  show (do
    let r ← mkFn 4 1 (mm__law_sort 22 d) [.cls 99]
    if texts r.1 = true then R.ok r else .no) = _
  rw [e]
  rfl
end

--#NEW
/-! ### a turn -/
section
variable {γ : Type} {kk : Rv × D → R γ} {P : γ → Prop} {n : Nat} {bag : D} {t : List Nat} {a b : Int}
theorem cut_sub {α : Type} {xs : List α} {lo hi : Option Int} : ∀ x ∈ cut xs lo hi, x ∈ xs := fun x hx => by
  unfold cut at hx
  exact List.mem_of_mem_drop (List.mem_of_mem_take hx)
theorem cut_le {α : Type} {xs : List α} {lo hi : Option Int} : (cut xs lo hi).length ≤ xs.length := by
  unfold cut
  rw [List.length_take, List.length_drop]
  omega
theorem sok_cut {xs : List Nat} {lo hi : Option Int} (h : sok xs = true) : sok (cut xs lo hi) = true := List.all_eq_true.mpr fun c hc => List.all_eq_true.mp h c (cut_sub c hc)
theorem sok_app {s t : List Nat} (h : sok s = true) (g : sok t = true) : sok (s ++ t) = true := by
  show (s ++ t).all _ = true
  rw [List.all_append]
  show (sok s && sok t) = true
  rw [h, g]; rfl
theorem ctx_len (ha : a.natAbs < 10 ^ 9) (hb : b.natAbs < 10 ^ 2) : (ctx a b).length ≤ 14 := by
  have l1 := figs_lenI (by decide) ha
  have l2 := figs_lenI (by decide) hb
  unfold ctx
  split
  · omega
  · rw [List.length_append, List.length_cons]; omega
theorem rp_str {x : List Nat} (h : sok x = true) (hl : x.length ≤ 100) : reprA [.str x] = .ok (.str (rpS (.str x)), false) ∧ sok (rpS (.str x)) = true := by
  have p : pl 1 5 (.str x) = true := str_pl h hl
  exact ⟨e_repr p (by omega) (by rw [wt_str]; omega), rpS_ok p⟩
theorem e_req (h : Low a b) : F_Ratio___eq__ [.ins 0 [.int a, .int b], .ins 0 [.int a, .int b]] = .ok (.bl true, false) := by
  rw [o_Ratio___eq__]
  exists o_is_fraction, o_as_ratio, o_is_integer
theorem ne_same {own : D → D → R Rv} {x : D} (h : dok dep x = true) : neD own x x = .ok (.bl false, false) := by
  rw [ne_g h h, eqv_refl dep _ h]; rfl
theorem dok_2 {x y : List Nat} (h : sok x = true) (g : sok y = true) : dok dep (.lst [.str x, .str y]) = true := by
  show (sok x && (sok y && true)) = true
  rw [h, g]; rfl
/-- some altered text -/
def Alt (t : List Nat) : Prop := t.length ≤ 40 ∧ sok t = true
theorem wp_right (hb : BagOk n bag) (hn : n < 2 ^ 30) (k : ∀ d', Wn (kk ((.bl true, false), d')) P) : Wn (bnd (F__law_right [] bag) kk) P := by
  rw [o__law_right]
  exists rng_map
  refine wp_for (mk := fun i : Nat => D.int i) (fun i ρ => ∃ d' s1 s2 s3 s4 s5 s6 s7 s8 s9 s10, ρ = [.ow d', s1, s2, s3, s4, s5, s6, s7, s8, s9, s10, .un, .un] ∧ BagOk (n + 10 * i) d') ⟨_, _, _, _, _, _, _, _, _, _, _, rfl, hb⟩ (fun i x9 ρ hx q => ?_) fun ρ q => ?_
  · obtain ⟨d', s1, s2, s3, s4, s5, s6, s7, s8, s9, s10, rfl, hd⟩ := q
    have hi : i < 6 := by have := (List.getElem?_eq_some_iff.mp hx).1; simpa using this
    exists bnd_ok
    refine wp_draw hd (by omega) (by omega) (by omega) fun u1 d1 u11 u12 hb1 => ?_
    exists bnd_ok
    refine wp_draw hb1 (by omega) (by omega) (by omega) fun u2 d2 u21 u22 hb2 => ?_
    exists bnd_ok
    refine wp_one hb2 (by omega) (by simp) (by simp) fun up d3 hup hb3 => ?_
    exists bnd_ok
    refine wp_one hb3 (by omega) (by simp) (by simp) fun sg d4 hsg hb4 => ?_
    have hu : ∃ u : Int, up = .int u ∧ 0 ≤ u ∧ u < 1000000000 := by
      simp only [List.mem_cons, List.not_mem_nil, or_false] at hup
      rcases hup with rfl | rfl | rfl | rfl
      · exact ⟨0, rfl, by omega, by omega⟩
      · exact ⟨7, rfl, by omega, by omega⟩
      · exact ⟨u1, rfl, by omega, by omega⟩
      · exact ⟨u2, rfl, by omega, by omega⟩
    obtain ⟨u, rfl, hu1, hu2⟩ := hu
    have hs : ∃ s : Int, sg = .int s ∧ (s = 1 ∨ s = -1) := by
      simp only [List.mem_cons, List.not_mem_nil, or_false] at hsg
      rcases hsg with rfl | rfl
      · exact ⟨1, rfl, .inl rfl⟩
      · exact ⟨-1, rfl, .inr rfl⟩
    obtain ⟨s, rfl, hs⟩ := hs
    have hm : mulOk u s = true := mulOk_n (by omega) (by omega)
    have hus : (u * s).natAbs < 10 ^ 9 := by rcases hs with rfl | rfl <;> omega
    exists hm
    refine wp_draw hb4 (by omega) (by omega) (by omega) fun w d5 w1 w2 hb5 => ?_
    have hw : (1 + w).natAbs < 10 ^ 2 := by omega
    have el := e_lowest (a := u * s) (b := 1 + w) (by omega) (bd_v (by omega))
    generalize ha : nm (u * s) (1 + w) = a at el
    generalize hbb : dn (u * s) (1 + w) = b at el
    have la : a.natAbs < 10 ^ 9 := by rw [← ha]; exact Nat.lt_of_le_of_lt (Int.natAbs_ediv_le_natAbs _ _) hus
    have lb : b.natAbs < 10 ^ 2 := by rw [← hbb]; exact Nat.lt_of_le_of_lt (Int.natAbs_ediv_le_natAbs _ _) hw
    have lo : Low a b := by rw [← ha, ← hbb]; exact low_nd (by omega)
    have a60 : a.natAbs < 10 ^ 60 := by omega
    have b60 : b.natAbs < 10 ^ 60 := by omega
    have e1 := wt_e a60 b60
    have e2 : mkObj 0 F_Ratio___init__ [.int a, .int b] = .ok (.ins 0 [.int a, .int b], false) := by
      have := e_ratio (n := a) (d := b) (by have := lo.1; omega) (bd_v b60)
      unfold rat at this
      rw [lo.2.1, lo.2.2] at this
      exact this
    have e3 := e_rstr a60 b60
    have hT : IsT (ctx a b) := ⟨a, b, lo, rfl⟩
    have hl := ctx_len la lb
    have hsk : sok (ctx a b) = true := ctx_sok
    have e4 : F_Ratio_read [.str (ctx a b)] = .ok (.ins 0 [.int a, .int b], false) := by
      obtain ⟨a', b', lo', ec, _, _, e⟩ := (e_rread (t := ctx a b) (by omega)).1 hT
      have x1 := ratT_ctx (n := a) (d := b) lo.1
      have x2 := ratT_ctx (n := a') (d := b') lo'.1
      rw [ec, x1] at x2
      injection x2 with x2
      injection x2 with x3 x4
      rw [← x3, ← x4] at e; exact e
    have e5 := e_req lo
    generalize hL : ctx a b = L at *
    have n1 : neD (sel (cany 0) (fun x y => F_Ratio___eq__ [x, y]) no2) (.lst [.str L, .str L, .bl true]) (.lst [.str L, .str L, .bl true]) = .ok (.bl false, false) := ne_same (by show (sok L && (sok L && true)) = true; rw [hsk]; rfl)
    have pr : prm [0] ([] : List D) [D.str L] = [D.str L] := rfl
    exists el, e1, e2, e3, e4, pr, e5, n1
    refine wp_draw hb5 (by omega) (by omega) (by omega) fun at_ d6 at1 at2 hb6 => ?_
    exists bnd_ok
    refine wp_one hb6 (by omega) (by simp) (by simp) fun mo d7 hmo hb7 => ?_
    have hm2 : ∃ c : Nat, mo = .str [c] ∧ c < 128 := by
      simp only [List.mem_cons, List.not_mem_nil, or_false] at hmo
      rcases hmo with rfl | rfl | rfl | rfl | rfl | rfl | rfl | rfl | rfl <;> exact ⟨_, rfl, by decide⟩
    obtain ⟨c, rfl, hc⟩ := hm2
    have c1 := cut_le (xs := L) (lo := none) (hi := some at_)
    have c2 := cut_le (xs := L) (lo := some at_) (hi := none)
    have c3 := cut_le (xs := L) (lo := some (at_ + 1)) (hi := none)
    have k1 := sok_cut (lo := none) (hi := some at_) hsk
    have k2 := sok_cut (lo := some at_) (hi := none) hsk
    have k3 := sok_cut (lo := some (at_ + 1)) (hi := none) hsk
    have kc : sok [c] = true := by show (decide (c < 1114112) && true) = true; rw [decide_eq_true (by omega)]; rfl
    exists bnd_ok
    refine wp_one hb7 (by omega) (by simp) (by simp) fun li d8 hli hb8 => ?_
    have hA : ∃ t, li = .str t ∧ Alt t := by
      simp only [List.mem_cons, List.not_mem_nil, or_false] at hli
      rcases hli with rfl | rfl | rfl
      · exact ⟨_, rfl, by simp only [List.length_append, List.length_cons, List.length_nil]; omega, sok_app (sok_app k1 kc) k2⟩
      · exact ⟨_, rfl, by simp only [List.length_append]; omega, sok_app k1 k3⟩
      · exact ⟨_, rfl, by simp only [List.length_append, List.length_cons, List.length_nil]; omega, sok_app (sok_app k1 kc) k3⟩
    clear hli
    obtain ⟨t, rfl, tl, ts⟩ := hA
    obtain ⟨rp1, rp2⟩ := rp_str ts (by omega)
    obtain ⟨r1, r2⟩ := e_rread (t := t) tl
    rcases e_read tl ts with ⟨x, y, er, hT2⟩ | ⟨er, hT2⟩
    · obtain ⟨a', b', _, ec, ba, bb, e⟩ := r1 hT2
      have es := e_rstr ba bb
      rw [ec] at es
      have et : ∀ s0 s1 s2 s3 s5 s6 s7 s8 s9 s10 s11 s12 : Slot, eTold F__law_sort [114, 101, 116, 117, 114, 110, 101, 100] [false, false, false, false, true, false, false, false, false, false, false, false, false] (eN (strD (sel1 (isC 0) (fun x => strG (F_Ratio___str__ [x])) no1)) [(eN F_Ratio_read [(eVar 4)])]) [s0, s1, s2, s3, .sh (.str t), s5, s6, s7, s8, s9, s10, s11, s12] = .ok ((.lst [.str retW, .str t], true), [s0, s1, s2, s3, .sh (.str t), s5, s6, s7, s8, s9, s10, s11, s12]) := fun s0 s1 s2 s3 s5 s6 s7 s8 s9 s10 s11 s12 => by
        refine told_ok (r := (.str t, false)) (ρ2 := maskB [false, false, false, false, true, false, false, false, false, false, false, false, false] [s0, s1, s2, s3, .sh (.str t), s5, s6, s7, s8, s9, s10, s11, s12]) rfl ?_
        show (eN (strD (sel1 (isC 0) (fun x => strG (F_Ratio___str__ [x])) no1)) [(eN F_Ratio_read [(eVar 4)])]) [.un, .un, .un, .un, .sh (.str t), .un, .un, .un, .un, .un, .un, .un, .un] = .ok ((.str t, false), [.un, .un, .un, .un, .sh (.str t), .un, .un, .un, .un, .un, .un, .un, .un])
        exists e, es
      have n2 : neD (sel (cany 0) (fun x y => F_Ratio___eq__ [x, y]) no2) (.lst [.str retW, .str t]) (.lst [.str retW, .str t]) = .ok (.bl false, false) := ne_same (dok_2 (by decide) ts)
      exists er, et, n2
      exact ⟨_, _, _, _, _, _, _, _, _, _, _, rfl, hb8.mono (by omega)⟩
    · have e := r2 hT2
      have et : ∀ s0 s1 s2 s3 s5 s6 s7 s8 s9 s10 s11 s12 : Slot, eTold F__law_sort [114, 101, 116, 117, 114, 110, 101, 100] [false, false, false, false, true, false, false, false, false, false, false, false, false] (eN (strD (sel1 (isC 0) (fun x => strG (F_Ratio___str__ [x])) no1)) [(eN F_Ratio_read [(eVar 4)])]) [s0, s1, s2, s3, .sh (.str t), s5, s6, s7, s8, s9, s10, s11, s12] = .ok ((.lst [.str invW, .str (rpS (.str t))], false), [s0, s1, s2, s3, .sh (.str t), s5, s6, s7, s8, s9, s10, s11, s12]) := fun s0 s1 s2 s3 s5 s6 s7 s8 s9 s10 s11 s12 => by
        refine told_ex (r := (_, false)) (d := .ins 22 [.str t]) rfl ?_ (e_sortX rp1)
        show (eN (strD (sel1 (isC 0) (fun x => strG (F_Ratio___str__ [x])) no1)) [(eN F_Ratio_read [(eVar 4)])]) [.un, .un, .un, .un, .sh (.str t), .un, .un, .un, .un, .un, .un, .un, .un] = .ex (.ins 22 [.str t])
        exists e
      have n2 : neD (sel (cany 0) (fun x y => F_Ratio___eq__ [x, y]) no2) (.lst [.str invW, .str (rpS (.str t))]) (.lst [.str invW, .str (rpS (.str t))]) = .ok (.bl false, false) := ne_same (dok_2 (by decide) rp2)
      exists er, et, rp1, n2
      exact ⟨_, _, _, _, _, _, _, _, _, _, _, rfl, hb8.mono (by omega)⟩
  · obtain ⟨d', s1, s2, s3, s4, s5, s6, s7, s8, s9, s10, rfl, hd⟩ := q
    rw [List.length_range] at hd
    exists bnd_ok
    refine wp_one hd (by omega) (by simp) (by simp) fun odd d2 ho hb2 => ?_
    have hO : F_Ratio_read [odd] = .ex (.ins 22 [odd]) ∧ ∃ s, reprA [odd] = .ok (.str s, false) ∧ sok s = true := by
      have sc : ∀ x : List Nat, x.length ≤ 40 → sok x = true → noTx x = true → F_Ratio_read [.str x] = .ex (.ins 22 [.str x]) ∧ ∃ s, reprA [.str x] = .ok (.str s, false) ∧ sok s = true := fun x h1 h2 h3 => by
        obtain ⟨p1, p2⟩ := rp_str h2 (by omega)
        exact ⟨(e_rread h1).2 (noTx_ok h3), _, p1, p2⟩
      have oc : ∀ x : D, isiD [x, .ty .str] = .ok (.bl false, false) → pl 3 5 x = true → wt x ≤ 6600 → F_Ratio_read [x] = .ex (.ins 22 [x]) ∧ ∃ s, reprA [x] = .ok (.str s, false) ∧ sok s = true := fun x h1 h2 h3 => ⟨rread_no h1, _, e_repr h2 (by omega) h3, rpS_ok h2⟩
      simp only [List.mem_cons, List.not_mem_nil, or_false] at ho
      rcases ho with rfl | rfl | rfl | rfl | rfl | rfl | rfl | rfl | rfl | rfl | rfl | rfl | rfl | rfl | rfl | rfl | rfl
      · exact oc _ rfl rfl (by decide)
      · exact oc _ rfl rfl (by decide)
      · exact sc _ (by decide) (by decide) (by decide +kernel)
      · exact sc _ (by decide) (by decide) (by decide +kernel)
      · exact sc _ (by decide) (by decide) (by decide +kernel)
      · exact sc _ (by decide) (by decide) (by decide +kernel)
      · exact sc _ (by decide) (by decide) (by decide +kernel)
      · exact sc _ (by decide) (by decide) (by decide +kernel)
      · exact sc _ (by decide) (by decide) (by decide +kernel)
      · exact sc _ (by decide) (by decide) (by decide +kernel)
      · exact sc _ (by decide) (by decide) (by decide +kernel)
      · exact sc _ (by decide) (by decide) (by decide +kernel)
      · exact sc _ (by decide) (by decide) (by decide +kernel)
      · exact sc _ (by decide) (by decide) (by decide +kernel)
      · exact sc _ (by decide) (by decide) (by decide +kernel)
      · exact oc _ rfl rfl (by decide)
      · exact oc _ rfl rfl (by decide)
    obtain ⟨ew, s, er, hs⟩ := hO
    have et : ∀ s0 s1 s2 s3 s4 s5 s6 s7 s8 s9 s10 s11 : Slot, eTold F__law_sort [114, 101, 116, 117, 114, 110, 101, 100] [false, false, false, false, false, false, false, false, false, false, false, false, true] (eN F_Ratio_read [(eVar 12)]) [s0, s1, s2, s3, s4, s5, s6, s7, s8, s9, s10, s11, .sh odd] = .ok ((.lst [.str invW, .str s], false), [s0, s1, s2, s3, s4, s5, s6, s7, s8, s9, s10, s11, .sh odd]) := fun s0 s1 s2 s3 s4 s5 s6 s7 s8 s9 s10 s11 => by
      refine told_ex (r := (_, false)) rfl ?_ (e_sortX er)
      show (eN F_Ratio_read [(eVar 12)]) [.un, .un, .un, .un, .un, .un, .un, .un, .un, .un, .un, .un, .sh odd] = .ex (.ins 22 [odd])
      exists ew
    have dd : dok dep (.lst [.str invW, .str s]) = true := dok_2 (by decide) hs
    have ee : eqD (sel (cany 0) (fun x y => F_Ratio___eq__ [x, y]) no2) (.lst [.str invW, .str s]) (.lst [.str invW, .str s]) = .ok (.bl true, false) := by rw [eq_g dd dd, eqv_refl dep _ dd]
    exists et, er, ee
    exact k _
end

--#NEW
/-! ### the whole law -/
theorem law_true (ns : List Int) (h : ns.length ≤ 63) : F_law [.fls (ns.map D.int)] = .ok (.bl true, false) := by
  refine Wn.eq ?_
  rw [o_law]
  exists rng_map
  refine wp_lc (fun n acc ρ => acc = List.replicate n (.bl true) ∧ ∃ s, ρ = [.sh (.fls (ns.map D.int)), s] ∧ okS (some s) = true) rfl (by rw [List.length_range]; omega) ⟨rfl, _, rfl, rfl⟩ (fun n x acc ρ hx q => ?_) fun acc ρ q => ?_
  · obtain ⟨rfl, s, rfl, hs⟩ := q
    have hx2 := List.getElem?_eq_some_iff.mp hx
    obtain ⟨hl, e⟩ := hx2
    rw [List.length_range] at hl
    rw [List.getElem_range] at e
    subst e
    exists bnd_ok
    refine wp_bag (by omega) (by omega) fun b hb => ?_
    exists bnd_ok
    refine wp_right hb (by decide) fun d' => ?_
    exists bnd_ok
    exact ⟨by rw [List.replicate_succ'], _, rfl, rfl⟩
  · obtain ⟨rfl, s, rfl, hs⟩ := q
    have e : ∀ n, List.replicate n (D.bl true) = (List.range n).map fun _ => D.bl true := fun n => by induction n with | zero => rfl | succ n ih => rw [List.replicate_succ', ih, List.range_succ, List.map_append]; rfl
    exists e, all_true

end DY

set_option Elab.async false
set_option linter.all false
set_option maxRecDepth 100000
set_option maxHeartbeats 4000000
namespace DY
open PySem L2 SL
def fdNmsB : List (String × String × String × Bool) := []
open Lean in
def fdOfB (x : Ident) : MacroM Term := do
  let s := x.getId.toString
  let i (p : String) : Ident := mkIdent (Name.mkSimple (p ++ s))
  let (n, q, b) := (fdNmsB.lookup s).getD (s, s, false)
  let d ← if b then `(.ref $(i "dt_")) else `(.none)
  `(PySem.W.fnOf $(quote n) $(quote q) (defArgs $(i "st_")) (defBody $(i "st_")) (defScope $(i "st_")) $d $(i "kV_") $(i "dc_") $(i "pm_") $(i "an_") $(i "cd_") $(i "ct_"))
open Lean in
local macro_rules
  | `(unop% $f:ident $x:ident) => do
    if f.getId != `fd then Macro.throwUnsupported
    if x.getId == `lr then `(by first | exact Or.inl rfl | exact Or.inr rfl) else fdOfB x
section Tbs
variable [Tb]
local macro_rules | `(tactic| walk_at "ne") => `(tactic| repeat' first
  | exact ne_var | exact ne_move | exact ne_c | exact ne_c0 | exact nes_nil | exact nn_pF | exact n2_p | exact n2_pF | exact n2_pFs | exact n1_pF | exact nn_mk | exact nn_mkD | exact n2_no | exact n1_no | exact n2_mulT
  | exact n2_fdiv | exact n2_mod | exact n2_pow | exact n2_lt | exact n2_le | exact n2_gt | exact n2_ge | exact n2_isN | exact n2_notN | exact n2_in | exact n2_nin | exact n2_ix | exact n2_join | exact n1_fld | exact n3_get
  | exact nn_strG | exact nn_isi | exact nn_abs | exact nn_int | exact nn_all | exact nn_any | exact nn_tuple | exact nn_tup | exact nn_lst | exact nn_mkey | exact trivial | exact ns_next | exact ns_no | exact ns_retN | exact ns_retV | exact ng_n | exact ngs_nil | exact ni_keys
  | refine nes_cons ?_ ?_ | refine ne_bin ?_ ?_ ?_ | refine ne_un ?_ ?_ | refine ne_n ?_ ?_ | refine ne_bor ?_ ?_ | refine ne_borR ?_ ?_ | refine ne_bor1 ?_ | refine ne_if ?_ ?_ ?_ | refine ne_and ?_ ?_ | refine ne_or ?_ ?_ | refine ne_not ?_
  | refine ne_chain ?_ ?_ ?_ ?_ ?_ | refine ne_get ?_ ?_ ?_ ?_ | refine ne_lc ?_ ?_ ?_ ?_ | refine ne_slice ?_ ?_ ?_ | refine ne_meth ?_ ?_ ?_ | refine ne_methK ?_ ?_ ?_ ?_ | refine ne_nk ?_ ?_ ?_ | refine ne_callR ?_ ?_ | refine ne_app ?_
  | refine n2_add ?_ | refine n2_sub ?_ | refine n2_mul ?_ | refine n1_neg ?_ | refine n2_eq ?_ | refine n2_ne ?_ | refine n1_len ?_ | refine nn_len ?_ | refine n2_sel ?_ ?_ | refine n1_sel1 ?_ ?_
  | refine ng_t ?_ | refine ngs_cons ?_ ?_ | refine ni_val ?_ | refine ni_range ?_ | refine ni_en ?_
  | refine ns_seq ?_ ?_ | refine ns_asg ?_ | refine ns_expr ?_ | refine ns_ret ?_ | refine ns_if ?_ ?_ ?_ | refine ns_asgT ?_ ?_ | refine ns_fld ?_ | refine ns_par ?_ ?_)
section
variable {P : Program} {w : World} {K : PySem.W.Frag} {mg : Str → Option Value} {base : Heap} {A : CT} {x : Fx}
theorem ok__law_bag (T : Txt K mg base A x) : FnOk P w K mg base (L2.CX P w) 1 x.f__law_bag x.d__law_bag ["_law_cells", "_law_k"] (spF K A F__law_bag 2) := by
  refine SL.fun_ok T.F__law_bag sc__law_bag (fun vs H Q E h => h.1) (fun cdv Ar outer s H vs Q E hr h => ?_)
  have pO : PassesOwn (model P w) (cxOf (L2.CX P w) P w K mg base nm__law_bag "_law_bag" (defScope st__law_bag) x.f__law_bag cdv Ar outer s H E).A (cxOf (L2.CX P w) P w K mg base nm__law_bag "_law_bag" (defScope st__law_bag) x.f__law_bag cdv Ar outer s H E).env (cxOf (L2.CX P w) P w K mg base nm__law_bag "_law_bag" (defScope st__law_bag) x.f__law_bag cdv Ar outer s H E).xe := passes_of rfl
  exact ⟨liftS K A none mm__law_bag, (by unfold mm__law_bag mt__law_bag_3 mt__law_bag_2 mt__law_bag_1; exact ((pdss_cons (pds_par (i := 2) (k := 3) rfl sc__law_bag.nd rfl rfl (by decide) rfl rfl (pd_if (pdt_cmp o_lt (pd_var (pv 1)) (PE.imp (pe_callB (o_lenb o_noN) (by rfl) T.n_len (by decide +kernel) (pa_cons (pv 0) pa_nil)) fun _ _ _ => bor1_use (nf_len nf_no1)) (nomark _)) (pd_callTy o_int (by rfl) T.n_int (by decide +kernel) (pda_cons (pd_borix hr.units1 (pv 0) (pd_var (pv 1)) (fun _ _ => rfl)) pda_nil)) pd_int) (pd_bin (o_mul o_no) pd_int (pd_bin (o_add o_no) (pd_var (pv 1)) pd_int)) (fun _ => by decide) (by rfl))
  (pdss_cons (pds_for pO rfl (pdi_val (pd_slice (pd_var (pv 0)) pdo_none (pdo_some pd_int))) (pdg_name (pg_name (i := 4) sc__law_bag.nd rfl (unop% fd lr))) (pdss_one (pds_set (i := 3) sc__law_bag.nd rfl (unop% fd lr) (pd_bin o_mod (pd_callTy o_int (by rfl) T.n_int (by decide +kernel) (pda_cons (pd_bin (o_add o_no) (pd_bin (o_add o_no) (pd_bin (o_mul o_no) (pd_var (pv 3)) pd_int) (pd_bin o_mod (pd_callTy o_int (by rfl) T.n_int (by decide +kernel) (pda_cons (pd_var (pv 4)) pda_nil)) pd_int)) (pd_bin (o_mul o_no) pd_int (pd_var (pv 1)))) pda_nil)) pd_int) (fun _ => by decide))))
  (pdss_cons (pds_set (i := 5) sc__law_bag.nd rfl (unop% fd lr) (pd_if (pdt_w (pdw_or (pdt_cmp o_lt (pd_var (pv 2)) pd_int (nomark _)) (pdw_or1 (pdt_cmp o_ge (pd_var (pv 2)) (pd_bin o_pow pd_int pd_int) (nomark _))))) (pd_callB o_abs (by rfl) T.n_abs (by decide +kernel) (pda_cons (pd_var (pv 2)) pda_nil)) pd_int) (fun _ => by decide))
  (pdss_one (pds_ret (pd_lst (pda_cons (pd_var (pv 5)) (pda_cons (pd_bin o_mod (pd_callTy o_int (by rfl) T.n_int (by decide +kernel) (pda_cons (pd_bin (o_add o_no) (pd_var (pv 3)) (pd_bin (o_mul o_no) pd_int (pd_bin o_mod (pd_callTy o_int (by rfl) T.n_int (by decide +kernel) (pda_cons (pd_var (pv 2)) pda_nil)) pd_int))) pda_nil)) pd_int) (pda_cons pd_int pda_nil))))))))))), enter_F (p := 2) rfl (by decide) (by rw [q__law_bag] at h; exact h)⟩
theorem ok_is_integer (T : Txt K mg base A x) : FnOk P w K mg base (L2.CX P w) 1 x.f_is_integer x.d_is_integer ["value"] (spF K A F_is_integer 1) := by
  refine SL.fun_ok T.F_is_integer sc_is_integer (fun vs H Q E h => h.1) (fun cdv Ar outer s H vs Q E hr h => ?_)
  exact ⟨liftS K A none mm_is_integer, (by unfold mm_is_integer; exact ((pdss_one (pds_ret (pd_and (pd_callB (o_isi T.kd) (by rfl) T.n_isinstance (by decide +kernel) (pda_cons (pd_var (pv 0)) (pda_cons (pd_c (pe_bltn (v := .ty "int") (by rfl) T.n_int (by decide +kernel) rfl) fun _ => .ty .int) pda_nil))) (pd_one (pd_not (pd_callB (o_isi T.kd) (by rfl) T.n_isinstance (by decide +kernel) (pda_cons (pd_var (pv 0)) (pda_cons (pd_c (pe_bltn (v := .ty "bool") (by rfl) T.n_bool (by decide +kernel) rfl) fun _ => .ty .bool) pda_nil)))))))))), enter_F (p := 1) rfl (by decide) (by rw [q_is_integer] at h; exact h)⟩
theorem ok_shared_factor (T : Txt K mg base A x) : FnOk P w K mg base (L2.CX P w) 1 x.f_shared_factor x.d_shared_factor ["one", "two"] (spF K A F_shared_factor 2) := by
  refine SL.fun_ok T.F_shared_factor sc_shared_factor (fun vs H Q E h => h.1) (fun cdv Ar outer s H vs Q E hr h => ?_)
  have pO : PassesOwn (model P w) (cxOf (L2.CX P w) P w K mg base nm_shared_factor "shared_factor" (defScope st_shared_factor) x.f_shared_factor cdv Ar outer s H E).A (cxOf (L2.CX P w) P w K mg base nm_shared_factor "shared_factor" (defScope st_shared_factor) x.f_shared_factor cdv Ar outer s H E).env (cxOf (L2.CX P w) P w K mg base nm_shared_factor "shared_factor" (defScope st_shared_factor) x.f_shared_factor cdv Ar outer s H E).xe := passes_of rfl
  exact ⟨liftS K A none mm_shared_factor, (by unfold mm_shared_factor mt_shared_factor_2 mt_shared_factor_1; exact ((pdss_cons (pds_par (i := 2) (k := 3) rfl sc_shared_factor.nd rfl rfl (by decide) rfl rfl (pd_callB o_abs (by rfl) T.n_abs (by decide +kernel) (pda_cons (pd_var (pv 0)) pda_nil)) (pd_callB o_abs (by rfl) T.n_abs (by decide +kernel) (pda_cons (pd_var (pv 1)) pda_nil)) (fun _ => by decide) (by rfl))
  (pdss_cons (pds_while pO (pdt_cmp o_gt (pd_var (pv 3)) pd_int (nomark _)) (pdss_one (pds_par (i := 2) (k := 3) rfl sc_shared_factor.nd rfl rfl (by decide) rfl rfl (pd_var (pv 3)) (pd_bin o_mod (pd_var (pv 2)) (pd_var (pv 3))) (fun _ => by decide) (by rfl))))
  (pdss_one (pds_retV (pv 2) (by decide))))))), enter_F (p := 2) rfl (by decide) (by rw [q_shared_factor] at h; exact h)⟩
theorem ok_Ratio___init__ (T : Txt K mg base A x) : FnOk P w K mg base (L2.CX P w) 3 x.f_Ratio___init__ x.d_Ratio___init__ ["self", "top", "bottom"] (spR K A F_Ratio___init__ 3 0) := by
  refine SL.funD_ok T.F_Ratio___init__ sc_Ratio___init__ (fun vs H Q E h => h.1) (fun cdv Ar outer s H vs Q E hr h => ?_)
  exact ⟨liftS K A (some 0) mm_Ratio___init__, (by unfold mm_Ratio___init__ mt_Ratio___init___3 mt_Ratio___init___2 mt_Ratio___init___1; exact ((pdss_cons (pds_if (pdt_not (pdt_val (pd_call hl_is_integer (ok_is_integer T) (hr.mono (by decide)) rfl T.g_is_integer T.kp_is_integer T.b_is_integer passL (pda_cons (pd_var (pv 1)) pda_nil)))) (pdss_one pds_no) pdss_nil)
  (pdss_cons (pds_if (pdt_w (pdw_or (pdt_not (pdt_val (pd_call hl_is_integer (ok_is_integer T) (hr.mono (by decide)) rfl T.g_is_integer T.kp_is_integer T.b_is_integer passL (pda_cons (pd_var (pv 2)) pda_nil)))) (pdw_or1 (pdt_cmp o_lt (pd_var (pv 2)) pd_int (nomark _))))) (pdss_one pds_no) pdss_nil)
  (pdss_cons (pds_set (i := 3) sc_Ratio___init__.nd rfl (unop% fd lr) (pd_call hl_shared_factor (ok_shared_factor T) (hr.mono (by decide)) rfl T.g_shared_factor T.kp_shared_factor T.b_shared_factor passL (pda_cons (pd_var (pv 1)) (pda_cons (pd_var (pv 2)) pda_nil))) (fun _ => by decide))
  (pdss_cons (pds_fld T.kd T.fl_Ratio_top T.nl_Ratio (pv 0) (pd_bin o_fdiv (pd_var (pv 1)) (pd_var (pv 3))))
  (pdss_one (pds_fld T.kd T.fl_Ratio_bottom T.nl_Ratio (pv 0) (pd_bin o_fdiv (pd_var (pv 2)) (pd_var (pv 3))))))))))), enter_R (p := 3) rfl (by decide) (by rw [q_Ratio___init__] at h; exact h)⟩
theorem ok_as_ratio (T : Txt K mg base A x) : FnOk P w K mg base (L2.CX P w) 6 x.f_as_ratio x.d_as_ratio ["value"] (spF K A F_as_ratio 1) := by
  refine SL.fun_ok T.F_as_ratio sc_as_ratio (fun vs H Q E h => h.1) (fun cdv Ar outer s H vs Q E hr h => ?_)
  exact ⟨liftS K A none mm_as_ratio, (by unfold mm_as_ratio; exact ((pdss_one (pds_ret (pd_if (pdt_val (pd_callB (o_isi T.kd) (by rfl) T.n_isinstance (by decide +kernel) (pda_cons (pd_var (pv 0)) (pda_cons (pd_c (pe_glob (v := .ref (A.ad 0)) rfl T.g_Ratio rfl) fun _ => .cls 0 T.in_Ratio) pda_nil)))) (pd_var (pv 0)) (pd_make T.in_Ratio hi_Ratio___init__ (fun _ => (.cons (.int 1) .nil)) T.mk_Ratio (ok_Ratio___init__ T) (hr.mono (by decide)) rfl T.g_Ratio (T.bd_Ratio___init___1).choose_spec.2 (T.bd_Ratio___init___1).choose_spec.1 passL (pda_cons (pd_var (pv 0)) pda_nil))))))), enter_F (p := 1) rfl (by decide) (by rw [q_as_ratio] at h; exact h)⟩
theorem ok_is_fraction (T : Txt K mg base A x) : FnOk P w K mg base (L2.CX P w) 3 x.f_is_fraction x.d_is_fraction ["value"] (spF K A F_is_fraction 1) := by
  refine SL.fun_ok T.F_is_fraction sc_is_fraction (fun vs H Q E h => h.1) (fun cdv Ar outer s H vs Q E hr h => ?_)
  exact ⟨liftS K A none mm_is_fraction, (by unfold mm_is_fraction; exact ((pdss_one (pds_ret (pd_or (pd_call hl_is_integer (ok_is_integer T) (hr.mono (by decide)) rfl T.g_is_integer T.kp_is_integer T.b_is_integer passL (pda_cons (pd_var (pv 0)) pda_nil)) (pd_one (pd_callB (o_isi T.kd) (by rfl) T.n_isinstance (by decide +kernel) (pda_cons (pd_var (pv 0)) (pda_cons (pd_c (pe_glob (v := .ref (A.ad 0)) rfl T.g_Ratio rfl) fun _ => .cls 0 T.in_Ratio) pda_nil))))))))), enter_F (p := 1) rfl (by decide) (by rw [q_is_fraction] at h; exact h)⟩
theorem ok_Ratio___eq__ (T : Txt K mg base A x) : FnOk P w K mg base (L2.CX P w) 8 x.f_Ratio___eq__ x.d_Ratio___eq__ ["self", "other"] (spF K A F_Ratio___eq__ 2) := by
  refine SL.fun_ok T.F_Ratio___eq__ sc_Ratio___eq__ (fun vs H Q E h => h.1) (fun cdv Ar outer s H vs Q E hr h => ?_)
  exact ⟨liftS K A none mm_Ratio___eq__, (by unfold mm_Ratio___eq__ mt_Ratio___eq___1; exact ((pdss_cons (pds_if (pdt_not (pdt_val (pd_call hl_is_fraction (ok_is_fraction T) (hr.mono (by decide)) rfl T.g_is_fraction T.kp_is_fraction T.b_is_fraction passL (pda_cons (pd_var (pv 1)) pda_nil)))) (pdss_one (pds_ret pd_bl)) pdss_nil)
  (pdss_cons (pds_set (i := 2) sc_Ratio___eq__.nd rfl (unop% fd lr) (pd_call hl_as_ratio (ok_as_ratio T) (hr.mono (by decide)) rfl T.g_as_ratio T.kp_as_ratio T.b_as_ratio passL (pda_cons (pd_var (pv 1)) pda_nil)) (fun _ => by decide))
  (pdss_one (pds_ret (pd_and (pd_cmp (o_eq hr.units o_no) (pd_fld T.kd T.fl_Ratio_top (pd_var (pv 0))) (pd_fld T.kd T.fl_Ratio_top (pd_var (pv 2))) (nomark _)) (pd_one (pd_cmp (o_eq hr.units o_no) (pd_fld T.kd T.fl_Ratio_bottom (pd_var (pv 0))) (pd_fld T.kd T.fl_Ratio_bottom (pd_var (pv 2))) (nomark _)))))))))), enter_F (p := 2) rfl (by decide) (by rw [q_Ratio___eq__] at h; exact h)⟩
theorem ok_Ratio___str__ (T : Txt K mg base A x) : FnOk P w K mg base (L2.CX P w) 1 x.f_Ratio___str__ x.d_Ratio___str__ ["self"] (spF K A F_Ratio___str__ 1) := by
  refine SL.fun_ok T.F_Ratio___str__ sc_Ratio___str__ (fun vs H Q E h => h.1) (fun cdv Ar outer s H vs Q E hr h => ?_)
  exact ⟨liftS K A none mm_Ratio___str__, (by unfold mm_Ratio___str__; exact ((pdss_cons (pds_if (pdt_cmp (o_eq hr.units o_no) (pd_fld T.kd T.fl_Ratio_bottom (pd_var (pv 0))) pd_int (nomark _)) (pdss_one (pds_ret (pd_joined1 (pd_fmt (pd_fld T.kd T.fl_Ratio_top (pd_var (pv 0))))))) pdss_nil)
  (pdss_one (pds_ret (pd_joined (pdj_cons (pd_fmt (pd_fld T.kd T.fl_Ratio_top (pd_var (pv 0)))) (pdj_cons (pd_str (by decide +kernel)) (pdj_cons (pd_fmt (pd_fld T.kd T.fl_Ratio_bottom (pd_var (pv 0)))) pdj_nil))))))))), enter_F (p := 1) rfl (by decide) (by rw [q_Ratio___str__] at h; exact h)⟩
theorem ok_is_written (T : Txt K mg base A x) : FnOk P w K mg base (L2.CX P w) 1 x.f_is_written x.d_is_written ["text"] (spF K A F_is_written 1) := by
  refine SL.fun_ok T.F_is_written sc_is_written (fun vs H Q E h => h.1) (fun cdv Ar outer s H vs Q E hr h => ?_)
  exact ⟨liftS K A none mm_is_written, (by unfold mm_is_written; exact ((pdss_cons (pds_if (pdt_w (pdw_or (pdt_cmp (o_eq hr.units o_no) (pd_var (pv 0)) (pd_str (by decide +kernel)) (nomark _)) (pdw_or1 (pdt_not (pdt_val (pd_callB (o_all rfl) (by rfl) T.n_all (by decide +kernel) (pda_cons (pd_lc (by decide) (pe_lc (own := [("sign", 1)]) rfl sc_is_written.nd (pdi_val (pd_var (pv 0))) (blkOk_by (own := [("sign", 1)]) (N := nm_is_written) (sc := defScope st_is_written) (by decide +kernel)) (fun _ _ _ _ _ => (pdg_name (pg_name (i := 1) sc_is_written.nd rfl (unop% fd lr)))) (fun _ _ _ _ _ => pdts_nil) (fun _ _ _ _ _ => (pd_cmp (o_in (u65 hr)) (pd_var (pv 1)) (pd_str (by decide +kernel)) (by with_unfolding_all rfl))))) pda_nil))))))) (pdss_one (pds_ret pd_bl)) pdss_nil)
  (pdss_one (pds_ret (pd_or (pd_cmp (o_eq hr.units o_no) (pd_var (pv 0)) (pd_str (by decide +kernel)) (nomark _)) (pd_one (pd_cmp (o_ne hr.units o_noNe) (pd_borix hr.units1 (pv 0) pd_int (fun _ _ => rfl)) (pd_str (by decide +kernel)) (nomark _))))))))), enter_F (p := 1) rfl (by decide) (by rw [q_is_written] at h; exact h)⟩
theorem ok_ratio_in (T : Txt K mg base A x) : FnOk P w K mg base (L2.CX P w) 6 x.f_ratio_in x.d_ratio_in ["text"] (spF K A F_ratio_in 1) := by
  refine SL.fun_ok T.F_ratio_in sc_ratio_in (fun vs H Q E h => h.1) (fun cdv Ar outer s H vs Q E hr h => ?_)
  exact ⟨liftS K A none mm_ratio_in, (by unfold mm_ratio_in mt_ratio_in_3 mt_ratio_in_2 mt_ratio_in_1; exact ((pdss_cons (pds_set (i := 1) sc_ratio_in.nd rfl (unop% fd lr) (pd_if (pdt_cmp (o_eq hr.units o_no) (pd_slice (pd_var (pv 0)) pdo_none (pdo_some pd_int)) (pd_str (by decide +kernel)) (nomark _)) (pd_un (o_neg o_no1) pd_int) pd_int) (fun _ => by decide))
  (pdss_cons (pds_asgT (pd_if (pdt_cmp o_lt (pd_var (pv 1)) pd_int (nomark _)) (pd_partition (pd_slice (pd_var (pv 0)) (pdo_some pd_int) pdo_none) (pd_str (by decide +kernel)) (fun h1 h2 => pe_partition h1 h2)) (pd_partition (pd_var (pv 0)) (pd_str (by decide +kernel)) (fun h1 h2 => pe_partition h1 h2))) (pdg_tup rfl (pdgs_cons (pdg_name (pg_name (i := 2) sc_ratio_in.nd rfl (unop% fd lr))) (pdgs_cons (pdg_name (pg_name (i := 3) sc_ratio_in.nd rfl (unop% fd lr))) (pdgs_cons (pdg_name (pg_name (i := 4) sc_ratio_in.nd rfl (unop% fd lr))) pdgs_nil)))))
  (pdss_cons (pds_if (pdt_w (pdw_or (pdt_not (pdt_val (pd_call hl_is_written (ok_is_written T) (hr.mono (by decide)) rfl T.g_is_written T.kp_is_written T.b_is_written passL (pda_cons (pd_var (pv 2)) pda_nil)))) (pdw_or1 (pdt_w (pdw_and (pdt_cmp (o_ne hr.units o_noNe) (pd_var (pv 3)) (pd_str (by decide +kernel)) (nomark _)) (pdw_and1 (pdt_not (pdt_val (pd_call hl_is_written (ok_is_written T) (hr.mono (by decide)) rfl T.g_is_written T.kp_is_written T.b_is_written passL (pda_cons (pd_var (pv 4)) pda_nil)))))))))) (pdss_one (pds_ret pd_non)) pdss_nil)
  (pdss_cons (pds_set (i := 5) sc_ratio_in.nd rfl (unop% fd lr) (pd_if (pdt_cmp (o_ne hr.units o_noNe) (pd_var (pv 3)) (pd_str (by decide +kernel)) (nomark _)) (pd_callTy o_intS (by rfl) T.n_int (by decide +kernel) (pda_cons (pd_var (pv 4)) pda_nil)) pd_int) (fun _ => by decide))
  (pdss_one (pds_ret (pd_if (pdt_cmp o_gt (pd_var (pv 5)) pd_int (nomark _)) (pd_make T.in_Ratio hi_Ratio___init__ (fun _ => .nil) T.mk_Ratio (ok_Ratio___init__ T) (hr.mono (by decide)) rfl T.g_Ratio T.b_Ratio___init__ .nil passL (pda_cons (pd_bin (o_mul o_no) (pd_var (pv 1)) (pd_callTy o_intS (by rfl) T.n_int (by decide +kernel) (pda_cons (pd_var (pv 2)) pda_nil))) (pda_cons (pd_var (pv 5)) pda_nil))) pd_non))))))))), enter_F (p := 1) rfl (by decide) (by rw [q_ratio_in] at h; exact h)⟩
theorem ok_Ratio_read (T : Txt K mg base A x) : FnOk P w K mg base (L2.CX P w) 8 x.f_Ratio_read x.d_Ratio_read ["text"] (spF K A F_Ratio_read 1) := by
  refine SL.fun_ok T.F_Ratio_read sc_Ratio_read (fun vs H Q E h => h.1) (fun cdv Ar outer s H vs Q E hr h => ?_)
  exact ⟨liftS K A none mm_Ratio_read, (by unfold mm_Ratio_read mt_Ratio_read_1; exact ((pdss_cons (pds_set (i := 1) sc_Ratio_read.nd rfl (unop% fd lr) (pd_if (pdt_val (pd_callB (o_isi T.kd) (by rfl) T.n_isinstance (by decide +kernel) (pda_cons (pd_var (pv 0)) (pda_cons (pd_c (pe_bltn (v := .ty "str") (by rfl) T.n_str (by decide +kernel) rfl) fun _ => .ty .str) pda_nil)))) (pd_call (hlF hl_ratio_in) (okF (ok_ratio_in T)) (hr.mono (by decide)) rfl T.g_ratio_in T.kp_ratio_in T.b_ratio_in passL (pda_cons (pd_var (pv 0)) pda_nil)) pd_non) (fun _ => by decide))
  (pdss_cons (pds_if (pdt_w (pdw_or (pdt_cmp o_isN (pd_var (pv 1)) pd_non (nomark _)) (pdw_or1 (pdt_cmp (o_ne hr.units o_noNe) (pd_callTy (o_str (o_strG T.o_Ratio_str (ok_Ratio___str__ T) (hr.mono (by decide)) T.b_Ratio___str__ passL)) (by rfl) T.n_str (by decide +kernel) (pda_cons (pd_var (pv 1)) pda_nil)) (pd_var (pv 0)) (nomark _))))) (pdss_one pds_raiseN) pdss_nil)
  (pdss_one (pds_retV (pv 1) (by decide))))))), enter_F (p := 1) rfl (by decide) (by rw [q_Ratio_read] at h; exact h)⟩
theorem ex_Ratio_read (T : Txt K mg base A x) : FnOk P w K mg base (L2.CX P w) 8 x.f_Ratio_read x.d_Ratio_read ["text"] (spFx K A F_Ratio_read 1) := by
  refine SL.fun_ok T.F_Ratio_read sc_Ratio_read (fun vs H Q E h => h.1) (fun cdv Ar outer s H vs Q E hr h => ?_)
  have pO : PassesOwn (model P w) (cxOf (L2.CX P w) P w K mg base nm_Ratio_read "Ratio.read" (defScope st_Ratio_read) x.f_Ratio_read cdv Ar outer s H E).A (cxOf (L2.CX P w) P w K mg base nm_Ratio_read "Ratio.read" (defScope st_Ratio_read) x.f_Ratio_read cdv Ar outer s H E).env (cxOf (L2.CX P w) P w K mg base nm_Ratio_read "Ratio.read" (defScope st_Ratio_read) x.f_Ratio_read cdv Ar outer s H E).xe := passes_of rfl
  have tk := takes_of (X := (cxOf (L2.CX P w) P w K mg base nm_Ratio_read "Ratio.read" (defScope st_Ratio_read) x.f_Ratio_read cdv Ar outer s H E)) rfl rfl rfl rfl
  have pX : Passes (L2.CX P w) (cxOf (L2.CX P w) P w K mg base nm_Ratio_read "Ratio.read" (defScope st_Ratio_read) x.f_Ratio_read cdv Ar outer s H E) E := passes_call tk (fun _ _ _ _ z => z)
  exact ⟨liftSX K A E none mm_Ratio_read, (by unfold mm_Ratio_read mt_Ratio_read_1; exact ((pxss_cons (pds_set (i := 1) sc_Ratio_read.nd rfl (unop% fd lr) (pd_if (pdt_val (pd_callB (o_isi T.kd) (by rfl) T.n_isinstance (by decide +kernel) (pda_cons (pd_var (pv 0)) (pda_cons (pd_c (pe_bltn (v := .ty "str") (by rfl) T.n_str (by decide +kernel) rfl) fun _ => .ty .str) pda_nil)))) (pd_call (hlF hl_ratio_in) (okF (ok_ratio_in T)) (hr.mono (by decide)) rfl T.g_ratio_in T.kp_ratio_in T.b_ratio_in passL (pda_cons (pd_var (pv 0)) pda_nil)) pd_non) (fun _ => by decide)) (pxs_no (by walk_at "ne"))
  (pxss_cons (pds_if (pdt_w (pdw_or (pdt_cmp o_isN (pd_var (pv 1)) pd_non (nomark _)) (pdw_or1 (pdt_cmp (o_ne hr.units o_noNe) (pd_callTy (o_str (o_strG T.o_Ratio_str (ok_Ratio___str__ T) (hr.mono (by decide)) T.b_Ratio___str__ passL)) (by rfl) T.n_str (by decide +kernel) (pda_cons (pd_var (pv 1)) pda_nil)) (pd_var (pv 0)) (nomark _))))) (pdss_one pds_raiseN) pdss_nil) (pxs_if (by walk_at "ne") (pdt_w (pdw_or (pdt_cmp o_isN (pd_var (pv 1)) pd_non (nomark _)) (pdw_or1 (pdt_cmp (o_ne hr.units o_noNe) (pd_callTy (o_str (o_strG T.o_Ratio_str (ok_Ratio___str__ T) (hr.mono (by decide)) T.b_Ratio___str__ passL)) (by rfl) T.n_str (by decide +kernel) (pda_cons (pd_var (pv 1)) pda_nil)) (pd_var (pv 0)) (nomark _))))) (pxss_one (pxs_raise (C := A.ad 22) rfl T.xin_InvalidText T.xm_InvalidText T.xc_InvalidText SL.xn_value (hr.toRoom.mono (by decide)) rfl T.g_InvalidText rfl tk (by walk_at "ne") (pda_cons (pd_var (pv 0)) pda_nil))) pxss_nil)
  (pxss_one (pxs_no (by walk_at "ne"))))))), enter_FX (p := 1) rfl (by decide) (by rw [q_Ratio_read] at h; exact h)⟩
theorem ok__law_draw (T : Txt K mg base A x) : FnOk P w K mg base (L2.CX P w) 1 x.f__law_draw x.d__law_draw ["_law_bag_here", "_law_wide"] (spR K A F__law_draw 2 0) := by
  refine SL.fun_ok T.F__law_draw sc__law_draw (fun vs H Q E h => h.1) (fun cdv Ar outer s H vs Q E hr h => ?_)
  exact ⟨liftS K A (some 0) mm__law_draw, (by unfold mm__law_draw mt__law_draw_5 mt__law_draw_4 mt__law_draw_3 mt__law_draw_2 mt__law_draw_1; exact ((pdss_cons (pds_put hr.units1 (pv 0) pd_int (pd_bin (o_add o_no) (pd_borix hr.units1 (pv 0) pd_int (fun _ _ => rfl)) pd_int))
  (pdss_cons (pds_if (pdt_cmp o_gt (pd_borix hr.units1 (pv 0) pd_int (fun _ _ => rfl)) pd_int (nomark _)) (pdss_cons (pds_set (i := 2) sc__law_draw.nd rfl (unop% fd lr) (pd_bin o_mod (pd_callTy o_int (by rfl) T.n_int (by decide +kernel) (pda_cons (pd_borix hr.units1 (pv 0) pd_int (fun _ _ => rfl)) pda_nil)) (pd_var (pv 1))) (fun _ => by decide))
  (pdss_cons (pds_put hr.units1 (pv 0) pd_int (pd_bin o_fdiv (pd_borix hr.units1 (pv 0) pd_int (fun _ _ => rfl)) (pd_var (pv 1))))
  (pdss_one (pds_retV (pv 2) (by decide))))) pdss_nil)
  (pdss_cons (pds_set (i := 3) sc__law_draw.nd rfl (unop% fd lr) (pd_bin (o_add o_no) (pd_callTy o_int (by rfl) T.n_int (by decide +kernel) (pda_cons (pd_borix hr.units1 (pv 0) pd_int (fun _ _ => rfl)) pda_nil)) (pd_bin (o_mul o_no) pd_int (pd_borix hr.units1 (pv 0) pd_int (fun _ _ => rfl)))) (fun _ => by decide))
  (pdss_cons (pds_set (i := 4) sc__law_draw.nd rfl (unop% fd lr) (pd_bin (o_add o_no) (pd_bin o_mod (pd_callTy o_int (by rfl) T.n_int (by decide +kernel) (pda_cons (pd_var (pv 3)) pda_nil)) pd_int) pd_int) (fun _ => by decide))
  (pdss_cons (pds_put hr.units1 (pv 0) pd_int (pd_bin o_mod (pd_callTy o_int (by rfl) T.n_int (by decide +kernel) (pda_cons (pd_bin (o_add o_no) (pd_bin (o_add o_no) (pd_bin (o_mul o_no) (pd_var (pv 3)) (pd_var (pv 4))) (pd_bin (o_mul o_no) pd_int (pd_borix hr.units1 (pv 0) pd_int (fun _ _ => rfl)))) pd_int) pda_nil)) pd_int))
  (pdss_one (pds_ret (pd_bin o_mod (pd_bin o_fdiv (pd_callTy o_int (by rfl) T.n_int (by decide +kernel) (pda_cons (pd_borix hr.units1 (pv 0) pd_int (fun _ _ => rfl)) pda_nil)) pd_int) (pd_var (pv 1)))))))))))), enter_R (p := 2) rfl (by decide) (by rw [q__law_draw] at h; exact h)⟩
theorem ok__law_lowest (T : Txt K mg base A x) : FnOk P w K mg base (L2.CX P w) 1 x.f__law_lowest x.d__law_lowest ["_law_upper", "_law_lower"] (spF K A F__law_lowest 2) := by
  refine SL.fun_ok T.F__law_lowest sc__law_lowest (fun vs H Q E h => h.1) (fun cdv Ar outer s H vs Q E hr h => ?_)
  have pO : PassesOwn (model P w) (cxOf (L2.CX P w) P w K mg base nm__law_lowest "_law_lowest" (defScope st__law_lowest) x.f__law_lowest cdv Ar outer s H E).A (cxOf (L2.CX P w) P w K mg base nm__law_lowest "_law_lowest" (defScope st__law_lowest) x.f__law_lowest cdv Ar outer s H E).env (cxOf (L2.CX P w) P w K mg base nm__law_lowest "_law_lowest" (defScope st__law_lowest) x.f__law_lowest cdv Ar outer s H E).xe := passes_of rfl
  exact ⟨liftS K A none mm__law_lowest, (by unfold mm__law_lowest mt__law_lowest_3 mt__law_lowest_2 mt__law_lowest_1; exact ((pdss_cons (pds_par (i := 2) (k := 3) rfl sc__law_lowest.nd rfl rfl (by decide) rfl rfl (pd_callB o_abs (by rfl) T.n_abs (by decide +kernel) (pda_cons (pd_var (pv 0)) pda_nil)) (pd_callB o_abs (by rfl) T.n_abs (by decide +kernel) (pda_cons (pd_var (pv 1)) pda_nil)) (fun _ => by decide) (by rfl))
  (pdss_cons (pds_while pO (pdt_cmp o_gt (pd_var (pv 3)) pd_int (nomark _)) (pdss_one (pds_par (i := 2) (k := 3) rfl sc__law_lowest.nd rfl rfl (by decide) rfl rfl (pd_var (pv 3)) (pd_bin o_mod (pd_callTy o_int (by rfl) T.n_int (by decide +kernel) (pda_cons (pd_var (pv 2)) pda_nil)) (pd_var (pv 3))) (fun _ => by decide) (by rfl))))
  (pdss_cons (pds_set (i := 4) sc__law_lowest.nd rfl (unop% fd lr) (pd_if (pdt_cmp o_gt (pd_var (pv 1)) pd_int (nomark _)) (pd_var (pv 2)) (pd_bin (o_sub o_no) pd_int (pd_var (pv 2)))) (fun _ => by decide))
  (pdss_one (pds_ret (pd_tup (pda_cons (pd_bin o_fdiv (pd_var (pv 0)) (pd_var (pv 4))) (pda_cons (pd_bin o_fdiv (pd_var (pv 1)) (pd_var (pv 4))) pda_nil)))))))))), enter_F (p := 2) rfl (by decide) (by rw [q__law_lowest] at h; exact h)⟩
theorem ok__law_one (T : Txt K mg base A x) : FnOk P w K mg base (L2.CX P w) 3 x.f__law_one x.d__law_one ["_law_bag_here", "_law_some"] (spR K A F__law_one 2 0) := by
  refine SL.fun_ok T.F__law_one sc__law_one (fun vs H Q E h => h.1) (fun cdv Ar outer s H vs Q E hr h => ?_)
  exact ⟨liftS K A (some 0) mm__law_one, (by unfold mm__law_one; exact ((pdss_one (pds_ret (pd_borix hr.units1 (pv 1) (pd_callR (ok__law_draw T) rfl rfl (hr.mono (by decide)) rfl T.g__law_draw T.kp__law_draw T.b__law_draw passL (par_nil (pv 0) (pda_cons (PE.imp (pe_callB (o_lenb o_noN) (by rfl) T.n_len (by decide +kernel) (pa_cons (pv 1) pa_nil)) fun _ _ _ => bor1_use (nf_len nf_no1)) pda_nil))) (fun _ _ => rfl)))))), enter_R (p := 2) rfl (by decide) (by rw [q__law_one] at h; exact h)⟩
theorem ok__law_written (T : Txt K mg base A x) : FnOk P w K mg base (L2.CX P w) 1 x.f__law_written x.d__law_written ["_law_pair"] (spF K A F__law_written 1) := by
  refine SL.fun_ok T.F__law_written sc__law_written (fun vs H Q E h => h.1) (fun cdv Ar outer s H vs Q E hr h => ?_)
  exact ⟨liftS K A none mm__law_written, (by unfold mm__law_written; exact ((pdss_one (pds_ret (pd_if (pdt_cmp (o_eq hr.units o_no) (pd_borix hr.units1 (pv 0) pd_int (fun _ _ => rfl)) pd_int (nomark _)) (pd_callTy (o_str o_noS) (by rfl) T.n_str (by decide +kernel) (pda_cons (pd_borix hr.units1 (pv 0) pd_int (fun _ _ => rfl)) pda_nil)) (pd_bin (o_add o_no) (pd_bin (o_add o_no) (pd_callTy (o_str o_noS) (by rfl) T.n_str (by decide +kernel) (pda_cons (pd_borix hr.units1 (pv 0) pd_int (fun _ _ => rfl)) pda_nil)) (pd_str (by decide +kernel))) (pd_callTy (o_str o_noS) (by rfl) T.n_str (by decide +kernel) (pda_cons (pd_borix hr.units1 (pv 0) pd_int (fun _ _ => rfl)) pda_nil)))))))), enter_F (p := 1) rfl (by decide) (by rw [q__law_written] at h; exact h)⟩
theorem ok__law_read (T : Txt K mg base A x) : FnOk P w K mg base (L2.CX P w) 3 x.f__law_read x.d__law_read ["_law_line"] (spF K A F__law_read 1) := by
  refine SL.fun_ok T.F__law_read sc__law_read (fun vs H Q E h => h.1) (fun cdv Ar outer s H vs Q E hr h => ?_)
  have pO : PassesOwn (model P w) (cxOf (L2.CX P w) P w K mg base nm__law_read "_law_read" (defScope st__law_read) x.f__law_read cdv Ar outer s H E).A (cxOf (L2.CX P w) P w K mg base nm__law_read "_law_read" (defScope st__law_read) x.f__law_read cdv Ar outer s H E).env (cxOf (L2.CX P w) P w K mg base nm__law_read "_law_read" (defScope st__law_read) x.f__law_read cdv Ar outer s H E).xe := passes_of rfl
  exact ⟨liftS K A none mm__law_read, (by unfold mm__law_read mt__law_read_6 mt__law_read_5 mt__law_read_4 mt__law_read_3 mt__law_read_2 mt__law_read_1; exact ((pdss_cons (pds_if (pdt_w (pdw_or (pdt_not (pdt_val (pd_callB (o_isi T.kd) (by rfl) T.n_isinstance (by decide +kernel) (pda_cons (pd_var (pv 0)) (pda_cons (pd_c (pe_bltn (v := .ty "str") (by rfl) T.n_str (by decide +kernel) rfl) fun _ => .ty .str) pda_nil))))) (pdw_or1 (pdt_cmp o_gt (PE.imp (pe_callB (o_lenb o_noN) (by rfl) T.n_len (by decide +kernel) (pa_cons (pv 0) pa_nil)) fun _ _ _ => bor1_use (nf_len nf_no1)) pd_int (nomark _))))) (pdss_one (pds_ret pd_non)) pdss_nil)
  (pdss_tok (pdsk_set (i := 1) sc__law_read.nd rfl (unop% fd lr) (pdk_split (pd_var (pv 0))) (fun _ => by decide))
  (pdsst_cons (pdst_of (pds_if (pdt_w (pdw_or (pdt_cmp o_gt (PE.imp (pe_callB (o_lenb o_noN) (by rfl) T.n_len (by decide +kernel) (pa_cons (pv 1) pa_nil)) fun _ _ _ => bor1_use (nf_len nf_no1)) pd_int (nomark _)) (pdw_or1 (pdt_cmp (o_ne hr.units o_noNe) (pd_lc (by decide) (pe_lc (own := [("_law_bit", 2)]) rfl sc__law_read.nd (pdi_val (pd_var (pv 1))) (blkOk_by (own := [("_law_bit", 2)]) (N := nm__law_read) (sc := defScope st__law_read) (by decide +kernel)) (fun _ _ _ _ _ => (pdg_name (pg_name (i := 2) sc__law_read.nd rfl (unop% fd lr)))) (fun _ _ _ _ _ => (pdts_one (pdt_cmp (o_in (u65 hr)) (pd_var (pv 2)) (pd_lst (pda_cons (pd_str (by decide +kernel)) (pda_cons (pd_str (by decide +kernel)) pda_nil))) (by with_unfolding_all rfl)))) (fun _ _ _ _ _ => (pd_var (pv 2))))) (pd_lst pda_nil) (nomark _))))) (pdss_one (pds_ret pd_non)) pdss_nil))
  (pdsst_cons (pdst_for pO rfl (pdit_of (pdi_val (pd_var (pv 1)))) (pdg_name (pg_name (i := 2) sc__law_read.nd rfl (unop% fd lr))) (pdsst_cons (pdst_if (pdtt_cmp (o_ne hr.units o_noNe) (pdt_lc (by decide) (SL.pet_lcT (own := [("_law_sign", 3)]) rfl sc__law_read.nd (pdit_repl1 (pd_var (pv 2))) (blkOk_by (own := [("_law_sign", 3)]) (N := nm__law_read) (sc := defScope st__law_read) (by decide +kernel)) (fun _ _ _ _ _ => (pdg_name (pg_name (i := 3) sc__law_read.nd rfl (unop% fd lr)))) (fun _ _ _ _ _ => (pdts_one (pdt_cmp (o_nin (u65 hr)) (pd_var (pv 3)) (pd_str (by decide +kernel)) (by with_unfolding_all rfl)))) (fun _ _ _ _ _ => (pd_var (pv 3))))) (pd_lst pda_nil) (nomark _)) (pdsst_of (pdss_one (pds_ret pd_non))) (pdsst_of pdss_nil))
  (pdsst_one (pdst_of (pds_if (pdt_w (pdw_and (pdt_borin (u65 hr) (pd_str (by decide +kernel)) (pv 2) (by with_unfolding_all rfl)) (pdw_and1 (pdt_cmp (o_ne hr.units o_noNe) (pd_borix hr.units1 (pv 2) pd_int (fun _ _ => rfl)) (pd_str (by decide +kernel)) (nomark _))))) (pdss_one (pds_ret pd_non)) pdss_nil)))))
  (pdsst_cons (pdst_of (pds_set (i := 4) sc__law_read.nd rfl (unop% fd lr) (pd_tup (pda_cons (pd_callTy o_intS (by rfl) T.n_int (by decide +kernel) (pda_cons (pd_borix hr.units1 (pv 1) pd_int (fun _ _ => rfl)) pda_nil)) (pda_cons (pd_if (pdt_cmp o_gt (PE.imp (pe_callB (o_lenb o_noN) (by rfl) T.n_len (by decide +kernel) (pa_cons (pv 1) pa_nil)) fun _ _ _ => bor1_use (nf_len nf_no1)) pd_int (nomark _)) (pd_callTy o_intS (by rfl) T.n_int (by decide +kernel) (pda_cons (pd_borix hr.units1 (pv 1) pd_int (fun _ _ => rfl)) pda_nil)) pd_int) pda_nil))) (fun _ => by decide)))
  (pdsst_cons (pdst_of (pds_if (pdt_w (pdw_or (pdt_cmp o_lt (pd_borix hr.units1 (pv 4) pd_int (fun _ _ => rfl)) pd_int (nomark _)) (pdw_or (pdt_cmp (o_ne hr.units o_noNe) (pd_call hl__law_lowest (ok__law_lowest T) (hr.mono (by decide)) rfl T.g__law_lowest T.kp__law_lowest T.b__law_lowest passL (pda_cons (pd_borix hr.units1 (pv 4) pd_int (fun _ _ => rfl)) (pda_cons (pd_borix hr.units1 (pv 4) pd_int (fun _ _ => rfl)) pda_nil))) (pd_var (pv 4)) (nomark _)) (pdw_or1 (pdt_cmp (o_ne hr.units o_noNe) (pd_call hl__law_written (ok__law_written T) (hr.mono (by decide)) rfl T.g__law_written T.kp__law_written T.b__law_written passL (pda_cons (pd_var (pv 4)) pda_nil)) (pd_var (pv 0)) (nomark _)))))) (pdss_one (pds_ret pd_non)) pdss_nil))
  (pdsst_one (pdst_of (pds_retV (pv 4) (by decide)))))))))))), enter_F (p := 1) rfl (by decide) (by rw [q__law_read] at h; exact h)⟩
theorem ok__law_sort {k : Nat} (T : Txt K mg base A x) : SL.FnX P w K mg base (k + 1) x.f__law_sort x.d__law_sort "_law_e" (spX K A F__law_sort) := by
  have t_c99 := T.c99
  have t_g_InvalidText := T.g_InvalidText
  have t_g_QuestionError := T.g_QuestionError
  have t_g_ShapeError := T.g_ShapeError
  have t_g_SizeError := T.g_SizeError
  have t_hk := T.hk
  have t_n_ArithmeticError := T.n_ArithmeticError
  have t_n_LookupError := T.n_LookupError
  have t_n_ValueError := T.n_ValueError
  have t_n_isinstance := T.n_isinstance
  have t_n_len := T.n_len
  have t_n_repr := T.n_repr
  have t_x99 := T.x99
  have t_xa := T.xa
  have t_xf_value := T.xf_value
  have t_xn_value := T.xn_value
  refine sort2_ok (l := xlL) T.F__law_sort sc__law_sort rfl (by decide) T.c99 T.x99 (fun tb cdv Ar outer s H a oe c x hr hc EA => ?_)
  have ead : (A.err a xlL).ad c = A.ad c := if_neg fun (z : c = 99) => t_x99 (z ▸ hc)
  have xaE : SL.XA K ((A.err a xlL).ad c) := by rw [ead]; exact t_xa c hc
  have hkE : ∀ y b, isxF c y = some b → ∃ cv, PySem.W.kitOne K (.ref ((A.err a xlL).ad c)) cv = some b ∧ ∀ (G : Hp) (v : V) (u : Value), Rep K (A.err a xlL) G v y → RelV v u → u = cv := by rw [ead]; exact t_hk c hc a
  have xf_value : PySem.W.findIn K (.ref ((A.err a xlL).ad c)) "value" = some none := by rw [ead]; exact t_xf_value c hc
  unfold mm__law_sort; exact ((pdss_cons (pds_set (i := 1) sc__law_sort.nd rfl (unop% fd lr) (pd_lst (pda_cons (pd_callB (o_isX EA xaE hkE) (by rfl) t_n_isinstance (by decide +kernel) (pda_cons (pd_var (pv 0)) (pda_cons (pd_c (pe_glob (v := .ref ((A.err a xlL).ad 20)) rfl t_g_ShapeError rfl) fun _ => .cls 20 (List.mem_cons_of_mem _ (List.mem_append_left _ (by decide)))) pda_nil))) (pda_cons (pd_callB (o_isX EA xaE hkE) (by rfl) t_n_isinstance (by decide +kernel) (pda_cons (pd_var (pv 0)) (pda_cons (pd_c (pe_glob (v := .ref ((A.err a xlL).ad 44)) rfl t_g_QuestionError rfl) fun _ => .cls 44 (List.mem_cons_of_mem _ (List.mem_append_left _ (by decide)))) pda_nil))) (pda_cons (pd_callB (o_isX EA xaE hkE) (by rfl) t_n_isinstance (by decide +kernel) (pda_cons (pd_var (pv 0)) (pda_cons (pd_c (pe_glob (v := .ref ((A.err a xlL).ad 56)) rfl t_g_SizeError rfl) fun _ => .cls 56 (List.mem_cons_of_mem _ (List.mem_append_left _ (by decide)))) pda_nil))) pda_nil)))) (fun _ => by decide))
  (pdss_cons (pds_set (i := 2) sc__law_sort.nd rfl (unop% fd lr) (pd_lst (pda_cons (pd_callB (o_isX EA xaE hkE) (by rfl) t_n_isinstance (by decide +kernel) (pda_cons (pd_var (pv 0)) (pda_cons (pd_c (pe_bltn (v := .ty "ValueError") (by rfl) t_n_ValueError (by decide +kernel) rfl) fun _ => .ty .xv) pda_nil))) (pda_cons (pd_callB (o_isX EA xaE hkE) (by rfl) t_n_isinstance (by decide +kernel) (pda_cons (pd_var (pv 0)) (pda_cons (pd_c (pe_bltn (v := .ty "LookupError") (by rfl) t_n_LookupError (by decide +kernel) rfl) fun _ => .ty .xl) pda_nil))) (pda_cons (pd_callB (o_isX EA xaE hkE) (by rfl) t_n_isinstance (by decide +kernel) (pda_cons (pd_var (pv 0)) (pda_cons (pd_c (pe_bltn (v := .ty "ArithmeticError") (by rfl) t_n_ArithmeticError (by decide +kernel) rfl) fun _ => .ty .xa) pda_nil))) pda_nil)))) (fun _ => by decide))
  (pdss_cons (pds_set (i := 3) sc__law_sort.nd rfl (unop% fd lr) (pd_lst pda_nil) (fun _ => by decide))
  (pdss_cons (pds_if (pdt_val (pd_callB (o_isX EA xaE hkE) (by rfl) t_n_isinstance (by decide +kernel) (pda_cons (pd_var (pv 0)) (pda_cons (pd_c (pe_glob (v := .ref ((A.err a xlL).ad 22)) rfl t_g_InvalidText rfl) fun _ => .cls 22 (List.mem_cons_of_mem _ (List.mem_append_left _ (by decide)))) pda_nil)))) (pdss_one (pds_expr (pd_append (pv 3) (pda_cons (pd_lst (pda_cons (pd_str (by decide +kernel)) (pda_cons (pd_callB (o_reprA hr.g hr.u65) (by rfl) t_n_repr (by decide +kernel) (pda_cons (pd_attrX EA xaE (t_xn_value c) xf_value (pd_var (pv 0))) pda_nil)) pda_nil))) pda_nil) (fun h => pe_bm PySem.F.plainAttrs_list PySem.F.slot_list_append PySem.F.type_list_append h (pv 3) (pda_cons (pd_lst (pda_cons (pd_str (by decide +kernel)) (pda_cons (pd_callB (o_reprA hr.g hr.u65) (by rfl) t_n_repr (by decide +kernel) (pda_cons (pd_attrX EA xaE (t_xn_value c) xf_value (pd_var (pv 0))) pda_nil)) pda_nil))) pda_nil))))) pdss_nil)
  (pdss_one (pds_ret (pd_if (pdt_w (pdw_and (pdt_cmp (o_eq hr.units o_no) (PE.imp (pe_callB (o_lenb o_noN) (by rfl) t_n_len (by decide +kernel) (pa_cons (pv 3) pa_nil)) fun _ _ _ => bor1_use (nf_len nf_no1)) pd_int (nomark _)) (pdw_and (pdt_cmp (o_eq hr.units o_no) (pd_var (pv 1)) (pd_var (pv 2)) (nomark _)) (pdw_and1 (pdt_cmp (o_eq hr.units o_no) (pd_count (pd_var (pv 1)) (pda_cons pd_bl pda_nil) (fun h => pe_bm PySem.F.plainAttrs_list PySem.F.slot_list_count PySem.F.type_list_count h (pd_var (pv 1)) (pda_cons pd_bl pda_nil))) pd_int (nomark _)))))) (pd_borix hr.units1 (pv 3) pd_int (fun _ _ => rfl)) (pd_lst (pda_cons (pd_str (by decide +kernel)) pda_nil))))))))))
theorem ok__law_right (T : Txt K mg base A x) : FnOk P w K mg base (L2.CX P w) 12 x.f__law_right x.d__law_right ["_law_bag_here"] (spR K A F__law_right 1 0) := by
  refine SL.funC_ok T.F__law_right sc__law_right (fun vs H Q E h => h.1) (fun Ar outer s H vs Q E hr h => ?_)
  have pO : PassesOwn (model P w) (cxOf (L2.CX P w) P w K mg base nm__law_right "_law_right" (defScope st__law_right) x.f__law_right x.d__law_right.code Ar outer s H E).A (cxOf (L2.CX P w) P w K mg base nm__law_right "_law_right" (defScope st__law_right) x.f__law_right x.d__law_right.code Ar outer s H E).env (cxOf (L2.CX P w) P w K mg base nm__law_right "_law_right" (defScope st__law_right) x.f__law_right x.d__law_right.code Ar outer s H E).xe := passes_of rfl
  exact ⟨liftS K A (some 0) mm__law_right, (by unfold mm__law_right mt__law_right_12 mt__law_right_11 mt__law_right_10 mt__law_right_9 mt__law_right_8 mt__law_right_7 mt__law_right_6 mt__law_right_5 mt__law_right_4 mt__law_right_3 mt__law_right_2 mt__law_right_1; exact ((pdss_cons (pds_for pO rfl (pdi_range1 (by rfl) T.n_range (pda_cons pd_int pda_nil)) (pdg_name (pg_name (i := 1) sc__law_right.nd rfl (unop% fd lr))) (pdss_cons (pds_set (i := 2) sc__law_right.nd rfl (unop% fd lr) (pd_bin (o_mul o_no) (pd_callR (ok__law_one T) rfl rfl (hr.mono (by decide)) rfl T.g__law_one T.kp__law_one T.b__law_one passL (par_nil (pv 0) (pda_cons (pd_lst (pda_cons pd_int (pda_cons pd_int (pda_cons (pd_callR (ok__law_draw T) rfl rfl (hr.mono (by decide)) rfl T.g__law_draw T.kp__law_draw T.b__law_draw passL (par_nil (pv 0) (pda_cons pd_int pda_nil))) (pda_cons (pd_callR (ok__law_draw T) rfl rfl (hr.mono (by decide)) rfl T.g__law_draw T.kp__law_draw T.b__law_draw passL (par_nil (pv 0) (pda_cons (pd_bin o_pow pd_int pd_int) pda_nil))) pda_nil))))) pda_nil))) (pd_callR (ok__law_one T) rfl rfl (hr.mono (by decide)) rfl T.g__law_one T.kp__law_one T.b__law_one passL (par_nil (pv 0) (pda_cons (pd_lst (pda_cons pd_int (pda_cons (pd_bin (o_sub o_no) pd_int pd_int) pda_nil))) pda_nil)))) (fun _ => by decide))
  (pdss_cons (pds_set (i := 3) sc__law_right.nd rfl (unop% fd lr) (pd_call hl__law_lowest (ok__law_lowest T) (hr.mono (by decide)) rfl T.g__law_lowest T.kp__law_lowest T.b__law_lowest passL (pda_cons (pd_var (pv 2)) (pda_cons (pd_bin (o_add o_no) pd_int (pd_callR (ok__law_draw T) rfl rfl (hr.mono (by decide)) rfl T.g__law_draw T.kp__law_draw T.b__law_draw passL (par_nil (pv 0) (pda_cons pd_int pda_nil)))) pda_nil))) (fun _ => by decide))
  (pdss_cons (pds_set (i := 4) sc__law_right.nd rfl (unop% fd lr) (pd_call hl__law_written (ok__law_written T) (hr.mono (by decide)) rfl T.g__law_written T.kp__law_written T.b__law_written passL (pda_cons (pd_var (pv 3)) pda_nil)) (fun _ => by decide))
  (pdss_cons (pds_set (i := 5) sc__law_right.nd rfl (unop% fd lr) (pd_make T.in_Ratio hi_Ratio___init__ (fun _ => .nil) T.mk_Ratio (ok_Ratio___init__ T) (hr.mono (by decide)) rfl T.g_Ratio T.b_Ratio___init__ .nil passL (pda_cons (pd_borix hr.units1 (pv 3) pd_int (fun _ _ => rfl)) (pda_cons (pd_borix hr.units1 (pv 3) pd_int (fun _ _ => rfl)) pda_nil))) (fun _ => by decide))
  (pdss_cons (pds_if (pdt_cmp (o_ne hr.units (neOf_sel (o_neC T.kd T.in_Ratio T.o_Ratio_eq T.ne_Ratio T.ob_Ratio (ok_Ratio___eq__ T) (hr.mono (by decide)) T.b_Ratio___eq__ passL) o_noNe)) (pd_lst (pda_cons (pd_callTy (o_str (o_strG T.o_Ratio_str (ok_Ratio___str__ T) (hr.mono (by decide)) T.b_Ratio___str__ passL)) (by rfl) T.n_str (by decide +kernel) (pda_cons (pd_var (pv 5)) pda_nil)) (pda_cons (pd_callTy (o_str (o_strG T.o_Ratio_str (ok_Ratio___str__ T) (hr.mono (by decide)) T.b_Ratio___str__ passL)) (by rfl) T.n_str (by decide +kernel) (pda_cons (pd_callP hl_Ratio_read (SL.pe_smeth (pe_glob (v := .ref (A.ad 0)) rfl T.g_Ratio rfl) T.sm_Ratio_read (ok_Ratio_read T) (hr.mono (by decide)) T.b_Ratio_read .nil passL (pda_cons (pd_var (pv 4)) pda_nil))) pda_nil)) (pda_cons (pd_cmp (o_eq hr.units (o_sel (o_eqC T.kd T.in_Ratio T.o_Ratio_eq (ok_Ratio___eq__ T) (hr.mono (by decide)) T.b_Ratio___eq__ passL) o_no)) (pd_callPK hl_Ratio_read (prm_gv _) (SL.pe_smethK0 (pe_glob (v := .ref (A.ad 0)) rfl T.g_Ratio rfl) T.sm_Ratio_read (ok_Ratio_read T) (hr.mono (by decide)) (T.kb_Ratio_read_0_text).choose_spec passL (pdk_cons (pd_var (pv 4)) pdk_nil)) rfl) (pd_var (pv 5)) (nomark _)) pda_nil)))) (pd_lst (pda_cons (pd_var (pv 4)) (pda_cons (pd_var (pv 4)) (pda_cons pd_bl pda_nil)))) (nomark _)) (pdss_one (pds_ret pd_bl)) pdss_nil)
  (pdss_cons (pds_par (i := 6) (k := 7) rfl sc__law_right.nd rfl rfl (by decide) rfl rfl (pd_callR (ok__law_draw T) rfl rfl (hr.mono (by decide)) rfl T.g__law_draw T.kp__law_draw T.b__law_draw passL (par_nil (pv 0) (pda_cons (pd_bin (o_add o_no) (PE.imp (pe_callB (o_lenb o_noN) (by rfl) T.n_len (by decide +kernel) (pa_cons (pv 4) pa_nil)) fun _ _ _ => bor1_use (nf_len nf_no1)) pd_int) pda_nil))) (pd_callR (ok__law_one T) rfl rfl (hr.mono (by decide)) rfl T.g__law_one T.kp__law_one T.b__law_one passL (par_nil (pv 0) (pda_cons (pd_lst (pda_cons (pd_str (by decide +kernel)) (pda_cons (pd_str (by decide +kernel)) (pda_cons (pd_str (by decide +kernel)) (pda_cons (pd_str (by decide +kernel)) (pda_cons (pd_str (by decide +kernel)) (pda_cons (pd_str (by decide +kernel)) (pda_cons (pd_str (by decide +kernel)) (pda_cons (pd_str (by decide +kernel)) (pda_cons (pd_str (by decide +kernel)) pda_nil)))))))))) pda_nil))) (fun _ => by decide) (by rfl))
  (pdss_cons (pds_set (i := 8) sc__law_right.nd rfl (unop% fd lr) (pd_lst (pda_cons (pd_bin (o_add o_no) (pd_bin (o_add o_no) (pd_slice (pd_var (pv 4)) pdo_none (pdo_some (pd_var (pv 6)))) (pd_var (pv 7))) (pd_slice (pd_var (pv 4)) (pdo_some (pd_var (pv 6))) pdo_none)) (pda_cons (pd_bin (o_add o_no) (pd_slice (pd_var (pv 4)) pdo_none (pdo_some (pd_var (pv 6)))) (pd_slice (pd_var (pv 4)) (pdo_some (pd_bin (o_add o_no) (pd_var (pv 6)) pd_int)) pdo_none)) (pda_cons (pd_bin (o_add o_no) (pd_bin (o_add o_no) (pd_slice (pd_var (pv 4)) pdo_none (pdo_some (pd_var (pv 6)))) (pd_var (pv 7))) (pd_slice (pd_var (pv 4)) (pdo_some (pd_bin (o_add o_no) (pd_var (pv 6)) pd_int)) pdo_none)) pda_nil)))) (fun _ => by decide))
  (pdss_cons (pds_set (i := 4) sc__law_right.nd rfl (unop% fd lr) (pd_callR (ok__law_one T) rfl rfl (hr.mono (by decide)) rfl T.g__law_one T.kp__law_one T.b__law_one passL (par_nil (pv 0) (pda_cons (pd_var (pv 8)) pda_nil))) (fun _ => by decide))
  (pdss_cons (pds_set (i := 9) sc__law_right.nd rfl (unop% fd lr) (pd_call hl__law_read (ok__law_read T) (hr.mono (by decide)) rfl T.g__law_read T.kp__law_read T.b__law_read passL (pda_cons (pd_var (pv 4)) pda_nil)) (fun _ => by decide))
  (pdss_cons (pds_set (i := 10) sc__law_right.nd rfl (unop% fd lr) (pd_told (k := 9) T.F__law_told rfl (by decide +kernel) T.b__law_told sc__law_told rfl rfl rfl rfl rfl rfl rfl rfl T.g__law_told T.g__law_sort T.kp__law_sort T.b__law_sort (ok__law_sort T) T.g_ShapeError T.g_QuestionError T.g_SizeError T.exm T.tB__law_right T.cd__law_right T.tm__law_right T.tu__law_right (hr.mono (by decide)) (LamX.lamS_by (sc := defScope st__law_right) (by decide +kernel)) rfl (fun _ _ _ _ _ => rfl) (fun Ar' outer' s' H' E' f' c' hr => (pd_callTy (o_str (o_strG T.o_Ratio_str (ok_Ratio___str__ T) (hr.mono (by decide)) T.b_Ratio___str__ passL)) (by rfl) T.n_str (by decide +kernel) (pda_cons (pd_callP hl_Ratio_read (SL.pe_smeth (pe_glob (v := .ref (A.ad 0)) rfl T.g_Ratio rfl) T.sm_Ratio_read (ok_Ratio_read T) (hr.mono (by decide)) T.b_Ratio_read .nil passL (pda_cons (pd_var (pv 4)) pda_nil))) pda_nil))) (fun Ar' outer' s' H' E' f' c' hr => (px_callTy (T := "str") nn_strG (px_callP (by walk_at "ne") hx_Ratio_read (SL.pe_smeth (pe_glob (v := .ref (A.ad 0)) rfl T.g_Ratio rfl) T.sm_Ratio_read (ex_Ratio_read T) (hr.mono (by decide)) T.b_Ratio_read .nil pX_lam (pda_cons (pd_var (pv 4)) pda_nil))) (by rfl) T.n_str (by decide +kernel)))) (fun _ => by decide))
  (pdss_one (pds_if (pdt_cmp (o_ne hr.units (neOf_sel (o_neC T.kd T.in_Ratio T.o_Ratio_eq T.ne_Ratio T.ob_Ratio (ok_Ratio___eq__ T) (hr.mono (by decide)) T.b_Ratio___eq__ passL) o_noNe)) (pd_var (pv 10)) (pd_if (pdt_cmp o_isN (pd_var (pv 9)) pd_non (nomark _)) (pd_lst (pda_cons (pd_str (by decide +kernel)) (pda_cons (pd_callB (o_reprA hr.g (u65 hr)) (by rfl) T.n_repr (by decide +kernel) (pda_cons (pd_var (pv 4)) pda_nil)) pda_nil))) (pd_lst (pda_cons (pd_str (by decide +kernel)) (pda_cons (pd_var (pv 4)) pda_nil)))) (nomark _)) (pdss_one (pds_ret pd_bl)) pdss_nil)))))))))))))
  (pdss_cons (pds_set (i := 11) sc__law_right.nd rfl (unop% fd lr) (pd_lst (pda_cons pd_non (pda_cons pd_int (pda_cons (pd_str (by decide +kernel)) (pda_cons (pd_str (by decide +kernel)) (pda_cons (pd_str (by decide +kernel)) (pda_cons (pd_str (by decide +kernel)) (pda_cons (pd_str (by decide +kernel)) (pda_cons (pd_str (by decide +kernel)) (pda_cons (pd_str (by decide +kernel)) (pda_cons (pd_str (by decide +kernel)) (pda_cons (pd_str (by decide +kernel)) pda_nil)))))))))))) (fun _ => by decide))
  (pdss_cons (pds_set (i := 12) sc__law_right.nd rfl (unop% fd lr) (pd_callR (ok__law_one T) rfl rfl (hr.mono (by decide)) rfl T.g__law_one T.kp__law_one T.b__law_one passL (par_nil (pv 0) (pda_cons (pd_bin (o_add o_no) (pd_var (pv 11)) (pd_lst (pda_cons (pd_str (by decide +kernel)) (pda_cons (pd_str (by decide +kernel)) (pda_cons (pd_str (by decide +kernel)) (pda_cons (pd_str (by decide +kernel)) (pda_cons (pd_tup (pda_cons (pd_str (by decide +kernel)) pda_nil)) (pda_cons (pd_lst pda_nil) pda_nil)))))))) pda_nil))) (fun _ => by decide))
  (pdss_one (pds_ret (pd_cmp (o_eq hr.units (o_sel (o_eqC T.kd T.in_Ratio T.o_Ratio_eq (ok_Ratio___eq__ T) (hr.mono (by decide)) T.b_Ratio___eq__ passL) o_no)) (pd_told (k := 9) T.F__law_told rfl (by decide +kernel) T.b__law_told sc__law_told rfl rfl rfl rfl rfl rfl rfl rfl T.g__law_told T.g__law_sort T.kp__law_sort T.b__law_sort (ok__law_sort T) T.g_ShapeError T.g_QuestionError T.g_SizeError T.exm T.tB__law_right T.cd__law_right T.tm__law_right T.tu__law_right (hr.mono (by decide)) (LamX.lamS_by (sc := defScope st__law_right) (by decide +kernel)) rfl (fun _ _ _ _ _ => rfl) (fun Ar' outer' s' H' E' f' c' hr => (pd_callP hl_Ratio_read (SL.pe_smeth (pe_glob (v := .ref (A.ad 0)) rfl T.g_Ratio rfl) T.sm_Ratio_read (ok_Ratio_read T) (hr.mono (by decide)) T.b_Ratio_read .nil passL (pda_cons (pd_var (pv 12)) pda_nil)))) (fun Ar' outer' s' H' E' f' c' hr => (px_callP (by walk_at "ne") hx_Ratio_read (SL.pe_smeth (pe_glob (v := .ref (A.ad 0)) rfl T.g_Ratio rfl) T.sm_Ratio_read (ex_Ratio_read T) (hr.mono (by decide)) T.b_Ratio_read .nil pX_lam (pda_cons (pd_var (pv 12)) pda_nil))))) (pd_lst (pda_cons (pd_str (by decide +kernel)) (pda_cons (pd_callB (o_reprA hr.g (u65 hr)) (by rfl) T.n_repr (by decide +kernel) (pda_cons (pd_var (pv 12)) pda_nil)) pda_nil))) (nomark _))))))))), enter_R (p := 1) rfl (by decide) (by rw [q__law_right] at h; exact h)⟩
theorem ok_law (T : Txt K mg base A x) : FnOk P w K mg base (L2.CX P w) 14 x.f_law x.d_law ["_law_cells"] (sp_law K) := by
  refine SL.fun_ok T.F_law sc_law (fun vs H Q E h => by obtain ⟨_, _, rfl, _⟩ := h; rfl) (fun cdv Ar outer s H vs Q E hr h => ?_)
  exact ⟨liftS K A none mm_law, (by unfold mm_law; exact ((pdss_one (pds_ret (pd_callB (o_all rfl) (by rfl) T.n_all (by decide +kernel) (pda_cons (pd_lc (by decide) (pe_lc (own := [("_law_k", 1)]) rfl sc_law.nd (pdi_range1 (by rfl) T.n_range (pda_cons (pd_callB (o_max rfl) (by rfl) T.n_max (by decide +kernel) (pda_cons pd_int (pda_cons (pd_callB (o_min rfl) (by rfl) T.n_min (by decide +kernel) (pda_cons (PE.imp (pe_callB (o_lenb o_noN) (by rfl) T.n_len (by decide +kernel) (pa_cons (pv 0) pa_nil)) fun _ _ _ => bor1_use (nf_len nf_no1)) (pda_cons pd_int pda_nil))) pda_nil))) pda_nil)) (blkOk_by (own := [("_law_k", 1)]) (N := nm_law) (sc := defScope st_law) (by decide +kernel)) (fun _ _ _ _ _ => (pdg_name (pg_name (i := 1) sc_law.nd rfl (unop% fd lr)))) (fun _ _ _ _ _ => pdts_nil) (fun _ _ _ _ _ => (pd_callT (ok__law_right T) rfl rfl (hr.mono (by decide)) rfl T.g__law_right T.kp__law_right T.b__law_right passL (pat_nil (pd_call hl__law_bag (ok__law_bag T) (hr.mono (by decide)) rfl T.g__law_bag T.kp__law_bag T.b__law_bag passL (pda_cons (pd_var (pv 0)) (pda_cons (pd_var (pv 1)) pda_nil)))))))) pda_nil)))))), enter_F (p := 1) rfl (by decide) (by have h := sp_of (A := A) T.b0 law_true h; rw [q_law] at h; exact h)⟩
end
end Tbs
theorem okLaw : OkLaw := fun _ _ _ _ _ _ _ T => ok_law T
end DY
/- these names are taken so that the head lays no copies of its heaps and trees, which nothing needs -/
theorem PySem.W.Fast.tw121639101873097172 : True := trivial
theorem PySem.W.Fast.tw1260734574318642545 : True := trivial
theorem PySem.W.Fast.tw6121029392067756023 : True := trivial
theorem PySem.W.Fast.tw6479791420715214683 : True := trivial
theorem PySem.W.Fast.tw2554761933240997011 : True := trivial
theorem PySem.W.Fast.tw14898069732060552183 : True := trivial
theorem PySem.W.Fast.tw14961222648292526783 : True := trivial
theorem PySem.W.Fast.tw7436797715426858136 : True := trivial
theorem PySem.W.Fast.tw2967972167338834643 : True := trivial
theorem PySem.W.Fast.tw17555858347295713453 : True := trivial
theorem PySem.W.Fast.tw9818106012389934865 : True := trivial
theorem PySem.W.Fast.tw15406146564031006974 : True := trivial
open PySem PySem.W PyProof.Rows
set_option maxRecDepth 100000 in
set_option maxHeartbeats 0 in
theorem PySem.Challenge.cw_slackstrings_k03_texts_of_ratios_holds : PySem.Challenge.rw_slackstrings_k03_texts_of_ratios.Holds := by
  w_on; o_law; k_head; (case hw => w_witness2)
  k_fill
  refine DY.walk (l := PySem.Challenge.rw_slackstrings_k03_texts_of_ratios) rfl rfl (fun w h Y => by first | exact PySem.W.kIn_of Y | exact PySem.W.km_in_of Y) ?F
  case F =>
    intro w mg fa h KX G hmg tab
    refine' DY.all_mk DY.okLaw KX G hmg tab ?aC_Ratio ?a__law_told ?E__law_told ?a__law_bag ?E__law_bag ?a_is_integer ?E_is_integer ?a_shared_factor ?E_shared_factor ?a_Ratio___init__ ?i_Ratio___init__ ?l_Ratio___init__ ?c_Ratio___init__ ?k_Ratio___init__ ?t_Ratio___init__ ?u_Ratio___init__ ?a_as_ratio ?E_as_ratio ?a_is_fraction ?E_is_fraction ?a_Ratio___eq__ ?i_Ratio___eq__ ?E_Ratio___eq__ ?a_Ratio___str__ ?i_Ratio___str__ ?E_Ratio___str__ ?a_is_written ?E_is_written ?a_ratio_in ?E_ratio_in ?s0_Ratio_read ?s1_Ratio_read ?s2_Ratio_read ?s3_Ratio_read ?s4_Ratio_read ?s5_Ratio_read ?E_Ratio_read ?a__law_draw ?E__law_draw ?a__law_lowest ?E__law_lowest ?a__law_one ?E__law_one ?a__law_written ?E__law_written ?a__law_read ?E__law_read ?a__law_sort ?E__law_sort ?a__law_right ?l__law_right ?c__law_right ?k__law_right ?a_law ?l_law ?c_law ?k_law ?aC_ShapeError ?aC_InvalidText ?aC_QuestionError ?aC_SizeError ?xI_InvalidText ?xv_InvalidText ?xs_InvalidText ?xh_InvalidText ?xno_InvalidText ?xin_InvalidText ?xfn_InvalidText ?xk_InvalidText ?xb_InvalidText ?xt_InvalidText ?xl_InvalidText ?xc_InvalidText ?xg_InvalidText ?xgg_InvalidText ?xca_InvalidText ?xmo_InvalidText ?xe_InvalidText ?kx_InvalidText_ShapeError ?kx_InvalidText_InvalidText ?kx_InvalidText_QuestionError ?kx_InvalidText_SizeError ?kx_InvalidText_ArithmeticError ?kx_InvalidText_LookupError ?kx_InvalidText_ValueError ?cc__law_right ?lc__law_right ?cp__law_right ?np__law_right ?rc__law_right ?z_ArithmeticError ?z_LookupError ?z_ValueError ?z_abs ?z_all ?z_bool ?z_int ?z_isinstance ?z_len ?z_max ?z_min ?z_range ?z_repr ?z_str ?pg_Ratio ?hd_Ratio ?po_Ratio ?sa_Ratio ?mk_Ratio ?kc_Ratio ?sf_Ratio ?si_Ratio ?sj_Ratio ?ha_Ratio ?hm_Ratio ?kb_Ratio_int ?kb_Ratio_bool ?kb_Ratio_str ?kb_Ratio_tuple ?kb_Ratio_list ?kb_Ratio_dict ?kt_Ratio_NoneType ?nf_Ratio_NoneType ?kt_Ratio_bool ?nf_Ratio_bool ?kt_Ratio_int ?nf_Ratio_int ?kt_Ratio_str ?nf_Ratio_str ?kt_Ratio_list ?nf_Ratio_list ?kt_Ratio_tuple ?nf_Ratio_tuple ?kt_Ratio_dict ?nf_Ratio_dict ?nn_Ratio_Ratio ?hn ?ht ?na_Ratio_bottom ?na_Ratio_top ?ne_Ratio ?ob_Ratio
    (case aC_Ratio => k_is); (case a__law_told => k_is); (case E__law_told => as_aux_lemma => (refine' ⟨_, L2.fun_mk ?zl ?zc ?zk⟩; (case zl => k_is); (case zc => k_is); (case zk => k_is))); (case a__law_bag => k_is); (case E__law_bag => as_aux_lemma => (refine' ⟨_, L2.fun_mk ?zl ?zc ?zk⟩; (case zl => k_is); (case zc => k_is); (case zk => k_is))); (case a_is_integer => k_is); (case E_is_integer => as_aux_lemma => (refine' ⟨_, L2.fun_mk ?zl ?zc ?zk⟩; (case zl => k_is); (case zc => k_is); (case zk => k_is))); (case a_shared_factor => k_is)
    (case E_shared_factor => as_aux_lemma => (refine' ⟨_, L2.fun_mk ?zl ?zc ?zk⟩; (case zl => k_is); (case zc => k_is); (case zk => k_is))); (case a_Ratio___init__ => k_is); (case i_Ratio___init__ => as_aux_lemma => k_is); (case l_Ratio___init__ => k_is); (case c_Ratio___init__ => k_is); (case k_Ratio___init__ => as_aux_lemma => k_is); (case t_Ratio___init__ => k_is); (case u_Ratio___init__ => exact (.cons ⟨_, rfl⟩ .nil))
    (case a_as_ratio => k_is); (case E_as_ratio => as_aux_lemma => (refine' ⟨_, L2.fun_mk ?zl ?zc ?zk⟩; (case zl => k_is); (case zc => k_is); (case zk => k_is))); (case a_is_fraction => k_is); (case E_is_fraction => as_aux_lemma => (refine' ⟨_, L2.fun_mk ?zl ?zc ?zk⟩; (case zl => k_is); (case zc => k_is); (case zk => k_is))); (case a_Ratio___eq__ => k_is); (case i_Ratio___eq__ => as_aux_lemma => k_is); (case E_Ratio___eq__ => as_aux_lemma => (refine' ⟨_, L2.fun_mk ?zl ?zc ?zk⟩; (case zl => k_is); (case zc => k_is); (case zk => k_is))); (case a_Ratio___str__ => k_is)
    (case i_Ratio___str__ => as_aux_lemma => k_is); (case E_Ratio___str__ => as_aux_lemma => (refine' ⟨_, L2.fun_mk ?zl ?zc ?zk⟩; (case zl => k_is); (case zc => k_is); (case zk => k_is))); (case a_is_written => k_is); (case E_is_written => as_aux_lemma => (refine' ⟨_, L2.fun_mk ?zl ?zc ?zk⟩; (case zl => k_is); (case zc => k_is); (case zk => k_is))); (case a_ratio_in => k_is); (case E_ratio_in => as_aux_lemma => (refine' ⟨_, L2.fun_mk ?zl ?zc ?zk⟩; (case zl => k_is); (case zc => k_is); (case zk => k_is))); (case s0_Ratio_read => k_is); (case s1_Ratio_read => k_is)
    (case s2_Ratio_read => k_is); (case s3_Ratio_read => as_aux_lemma => k_is); (case s4_Ratio_read => as_aux_lemma => k_is); (case s5_Ratio_read => as_aux_lemma => k_is); (case E_Ratio_read => as_aux_lemma => (refine' ⟨_, L2.fun_mk ?zl ?zc ?zk⟩; (case zl => k_is); (case zc => k_is); (case zk => k_is))); (case a__law_draw => k_is); (case E__law_draw => as_aux_lemma => (refine' ⟨_, L2.fun_mk ?zl ?zc ?zk⟩; (case zl => k_is); (case zc => k_is); (case zk => k_is))); (case a__law_lowest => k_is)
    (case E__law_lowest => as_aux_lemma => (refine' ⟨_, L2.fun_mk ?zl ?zc ?zk⟩; (case zl => k_is); (case zc => k_is); (case zk => k_is))); (case a__law_one => k_is); (case E__law_one => as_aux_lemma => (refine' ⟨_, L2.fun_mk ?zl ?zc ?zk⟩; (case zl => k_is); (case zc => k_is); (case zk => k_is))); (case a__law_written => k_is); (case E__law_written => as_aux_lemma => (refine' ⟨_, L2.fun_mk ?zl ?zc ?zk⟩; (case zl => k_is); (case zc => k_is); (case zk => k_is))); (case a__law_read => k_is); (case E__law_read => as_aux_lemma => (refine' ⟨_, L2.fun_mk ?zl ?zc ?zk⟩; (case zl => k_is); (case zc => k_is); (case zk => k_is))); (case a__law_sort => k_is)
    (case E__law_sort => as_aux_lemma => (refine' ⟨_, L2.fun_mk ?zl ?zc ?zk⟩; (case zl => k_is); (case zc => k_is); (case zk => k_is))); (case a__law_right => k_is); (case l__law_right => k_is); (case c__law_right => k_is); (case k__law_right => as_aux_lemma => k_is); (case a_law => k_is); (case l_law => k_is); (case c_law => k_is)
    (case k_law => as_aux_lemma => k_is); (case aC_ShapeError => k_is); (case aC_InvalidText => k_is); (case aC_QuestionError => k_is); (case aC_SizeError => k_is); (case xI_InvalidText => as_aux_lemma => kx_is); (case xv_InvalidText => as_aux_lemma => kx_is); (case xs_InvalidText => as_aux_lemma => k_is)
    (case xh_InvalidText => as_aux_lemma => k_is); (case xno_InvalidText => as_aux_lemma => k_is); (case xin_InvalidText => k_is); (case xfn_InvalidText => as_aux_lemma => k_is); (case xk_InvalidText => as_aux_lemma => k_is); (case xb_InvalidText => as_aux_lemma => k_is); (case xt_InvalidText => as_aux_lemma => k_is); (case xl_InvalidText => k_is)
    (case xc_InvalidText => k_is); (case xg_InvalidText => as_aux_lemma => k_is); (case xgg_InvalidText => as_aux_lemma => k_is); (case xca_InvalidText => as_aux_lemma => k_is); (case xmo_InvalidText => as_aux_lemma => k_is); (case xe_InvalidText => as_aux_lemma => kts_exm); (case kx_InvalidText_ShapeError => as_aux_lemma => kit_is); (case kx_InvalidText_InvalidText => as_aux_lemma => kit_is)
    (case kx_InvalidText_QuestionError => as_aux_lemma => kit_is); (case kx_InvalidText_SizeError => as_aux_lemma => kit_is); (case kx_InvalidText_ArithmeticError => as_aux_lemma => kit_is); (case kx_InvalidText_LookupError => as_aux_lemma => kit_is); (case kx_InvalidText_ValueError => as_aux_lemma => kit_is); (case cc__law_right => rfl); (case lc__law_right => k_is); (case cp__law_right => rfl)
    (case np__law_right => kernel_rfl); (case rc__law_right => kernel_rfl); (case z_ArithmeticError => as_aux_lemma => k_is); (case z_LookupError => as_aux_lemma => k_is); (case z_ValueError => as_aux_lemma => k_is); (case z_abs => as_aux_lemma => k_is); (case z_all => as_aux_lemma => k_is); (case z_bool => as_aux_lemma => k_is)
    (case z_int => as_aux_lemma => k_is); (case z_isinstance => as_aux_lemma => k_is); (case z_len => as_aux_lemma => k_is); (case z_max => as_aux_lemma => k_is); (case z_min => as_aux_lemma => k_is); (case z_range => as_aux_lemma => k_is); (case z_repr => as_aux_lemma => k_is); (case z_str => as_aux_lemma => k_is)
    (case pg_Ratio => as_aux_lemma => k_is); (case hd_Ratio => as_aux_lemma => k_is); (case po_Ratio => as_aux_lemma => k_is); (case sa_Ratio => as_aux_lemma => k_is); (case mk_Ratio => as_aux_lemma => k_is); (case kc_Ratio => k_is); (case sf_Ratio => as_aux_lemma => k_is); (case si_Ratio => as_aux_lemma => k_is)
    (case sj_Ratio => as_aux_lemma => k_is); (case ha_Ratio => as_aux_lemma => k_is); (case hm_Ratio => as_aux_lemma => k_is); (case kb_Ratio_int => as_aux_lemma => kit_is); (case kb_Ratio_bool => as_aux_lemma => kit_is); (case kb_Ratio_str => as_aux_lemma => kit_is); (case kb_Ratio_tuple => as_aux_lemma => kit_is); (case kb_Ratio_list => as_aux_lemma => kit_is)
    (case kb_Ratio_dict => as_aux_lemma => kit_is); (case kt_Ratio_NoneType => as_aux_lemma => kit_is); (case nf_Ratio_NoneType => as_aux_lemma => k_is); (case kt_Ratio_bool => as_aux_lemma => kit_is); (case nf_Ratio_bool => as_aux_lemma => k_is); (case kt_Ratio_int => as_aux_lemma => kit_is); (case nf_Ratio_int => as_aux_lemma => k_is); (case kt_Ratio_str => as_aux_lemma => kit_is)
    (case nf_Ratio_str => as_aux_lemma => k_is); (case kt_Ratio_list => as_aux_lemma => kit_is); (case nf_Ratio_list => as_aux_lemma => k_is); (case kt_Ratio_tuple => as_aux_lemma => kit_is); (case nf_Ratio_tuple => as_aux_lemma => k_is); (case kt_Ratio_dict => as_aux_lemma => kit_is); (case nf_Ratio_dict => as_aux_lemma => k_is); (case nn_Ratio_Ratio => as_aux_lemma => k_is)
    (case hn => as_aux_lemma => k_is); (case ht => as_aux_lemma => k_is); (case na_Ratio_bottom => as_aux_lemma => k_is); (case na_Ratio_top => as_aux_lemma => k_is); (case ne_Ratio => as_aux_lemma => k_is); (case ob_Ratio => as_aux_lemma => k_is)
