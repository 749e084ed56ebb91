import PyProof.Rows.All
import Wide.All
import OpenK.AllK
import Wide.FinOn
import HandS.Call
import HandS.Words
import HandS.WordsExc
import HandS.Defaults
import HandS.MakeKw
import HandS.MakeKwOnly
import PyProof.TwoTypes
import PyProof.ListMulRight
import PyProof.NeKinds
import PyProof.InstNe
import KE.KOpsOwn
import HandS.ForMost
import HandS.ForExc
import HandS.IsInst
import HandS.Wide
import HandS.EndBits
import HandS.FStr
import HandS.DictComp
import HandS.Walk
import HandS.Zip
import HandS.RaiseMore
import HandS.Steps
import KE.KCallOwn
import HandS.Lambda
import HandS.TupAny
import HandS.Deep
import HandS.More
import HandS.Conv
import KE.KDictPairs
import HandS.Ends
import HandS.EndTab
import KE.KNest
import HandS.Exc
import KE.KExcInit
import KE.KExcIs
import KE.KTryMore
import PyProof.ExcBaseAll.LookupError
import PyProof.ExcBaseAll.ArithmeticError
import PyProof.ExcBaseAll.ValueError
import HandS.HotCalls
import KE.GoesEnum
import PyProof.ListStr
import HandS.Style
import PyProof.ReprRoads
import HandS.SetFor
import HandS.ExcOwn
import HandS.TryOnly
import HandS.OwnEq
import PyProof.InstSpecial
import PyProof.ListTruth
import PyProof.Conv_bool
import PyProof.Rows.Range3
import PyProof.Draws
import HandS.List
import PySem.Challenge.RW_slackstrings_k17_whole_texts_of_wishes
import HandS.Text
import PyProof.TupleOfStr
import PyProof.SliceStr2
import HandS.TupMul
import HandS.Codes
import KE.IntTextLaws
import PyProof.ReprLen
set_option linter.all false
/-! ### a mirror of the program over plain data: values, a store of slots, combinators that run -/
namespace DY
/-- a key of a dict -/
abbrev Ky := Sum Int (List Nat)
inductive BT where
  | int | bool | str | tuple | list | dict | set | xv | xl | xa
  deriving DecidableEq
/-- data: no heap; an instance is its class' number and its attributes in order -/
inductive D where
  | non
  | bl (b : Bool)
  | int (i : Int)
  | str (s : List Nat)
  | tup (xs : List D)
  | kt (xs : List D)
  | lst (xs : List D)
  | fls (xs : List D)
  | dic (kvs : List (Ky × D))
  | dct (kvs : List (List Ky × D))
  | ins (c : Nat) (fs : List D)
  | ty (t : BT)
  | cls (c : Nat)
  | any
/-- what a run gives: an end, an exception, or nothing that is told -/
inductive R (α : Type) where
  | ok (a : α)
  | ex (d : D)
  | no
@[reducible] def R.bind {α β : Type} : R α → (α → R β) → R β
  | .ok a, f => f a
  | .ex d, _ => .ex d
  | .no, _ => .no
instance : Monad R where
  pure := R.ok
  bind := R.bind
theorem bind_ok {α β : Type} {r : R α} {f : α → R β} {b : β} (h : (r >>= f) = .ok b) : ∃ a, r = .ok a ∧ f a = .ok b := by
  cases r with
  | ok a => exact ⟨a, rfl, h⟩
  | ex d => cases h
  | no => cases h
/-- a slot: nothing known; a value that nobody changes any more; an object of this def's own -/
inductive Slot where
  | un
  | sh (d : D)
  | ow (d : D)
abbrev Env := List Slot
abbrev Rv := D × Bool
abbrev Ev := Env → R (Rv × Env)
/-- the value, its object given up -/
def val (e : Ev) : Env → R (D × Env) := fun ρ => do
  let (r, ρ') ← e ρ
  pure (r.1, ρ')
def eVar (i : Nat) : Ev := fun ρ =>
  match ρ[i]? with
  | some (.sh d) => .ok ((d, false), ρ)
  | some (.ow d) => .ok ((d, false), ρ.set i (.sh d))
  | _ => .no
def eMove (i : Nat) : Ev := fun ρ =>
  match ρ[i]? with
  | some (.sh d) => .ok ((d, false), ρ)
  | some (.ow d) => .ok ((d, true), ρ.set i .un)
  | _ => .no
def eC (d : D) : Ev := fun ρ => .ok ((d, false), ρ)
def eBin (f : D → D → R Rv) (a b : Ev) : Ev := fun ρ => do
  let (x, ρ1) ← val a ρ
  let (y, ρ2) ← val b ρ1
  let r ← f x y
  pure (r, ρ2)
def eUn (f : D → R Rv) (a : Ev) : Ev := fun ρ => do
  let (x, ρ1) ← val a ρ
  let r ← f x
  pure (r, ρ1)
/-- an operation that looks at the object of slot i, without giving it up: x op slot -/
def look (ρ : Env) (i : Nat) : R D :=
  match ρ[i]? with
  | some (.sh d) => .ok d
  | some (.ow d) => .ok d
  | _ => .no
def eBor (f : D → D → R Rv) (i : Nat) (b : Ev) : Ev := fun ρ => do
  let _ ← look ρ i
  let (y, ρ1) ← val b ρ
  let d ← look ρ1 i
  let r ← f d y
  pure (r, ρ1)
/-- x op slot -/
def eBorR (f : D → D → R Rv) (a : Ev) (i : Nat) : Ev := fun ρ => do
  let (x, ρ1) ← val a ρ
  let d ← look ρ1 i
  let r ← f x d
  pure (r, ρ1)
def eBor1 (f : D → R Rv) (i : Nat) : Ev := fun ρ => do
  let d ← look ρ i
  let r ← f d
  pure (r, ρ)
def evs : List Ev → Env → R (List D × Env)
  | [], ρ => .ok ([], ρ)
  | e :: es, ρ => do
    let (x, ρ1) ← val e ρ
    let (xs, ρ2) ← evs es ρ1
    pure (x :: xs, ρ2)
def eN (f : List D → R Rv) (as : List Ev) : Ev := fun ρ => do
  let (xs, ρ1) ← evs as ρ
  let r ← f xs
  pure (r, ρ1)
def isB : D → R Bool
  | .bl b => .ok b
  | _ => .no
def eIf (t a b : Ev) : Ev := fun ρ => do
  let (x, ρ1) ← val t ρ
  let c ← isB x
  if c then a ρ1 else b ρ1
def eAnd (a b : Ev) : Ev := fun ρ => do
  let (x, ρ1) ← val a ρ
  let c ← isB x
  if c then b ρ1 else .ok ((.bl false, false), ρ1)
def eOr (a b : Ev) : Ev := fun ρ => do
  let (x, ρ1) ← val a ρ
  let c ← isB x
  if c then .ok ((.bl true, false), ρ1) else b ρ1
def eNot (a : Ev) : Ev := fun ρ => do
  let (x, ρ1) ← val a ρ
  let c ← isB x
  pure ((.bl (!c), false), ρ1)
/-- a op b op' c -/
def eChain (f g : D → D → R Rv) (a b c : Ev) : Ev := fun ρ => do
  let (x, ρ1) ← val a ρ
  let (y, ρ2) ← val b ρ1
  let r ← f x y
  let k ← isB r.1
  if k then do
    let (z, ρ3) ← val c ρ2
    let r ← g y z
    pure (r, ρ3)
  else .ok ((.bl false, false), ρ2)
/-- a def without a borrowed parameter; with one -/
abbrev Fn := List D → R Rv
abbrev FnR := List D → D → R (Rv × D)
/-- a call that lends the object of slot i -/
def eCallR (F : FnR) (pre : List Ev) (i : Nat) (post : List Ev) : Ev := fun ρ => do
  let _ ← look ρ i
  let (xs, ρ1) ← evs pre ρ
  let (ys, ρ2) ← evs post ρ1
  match ρ2[i]? with
  | some (.ow d) => do
    let (r, d') ← F (xs ++ ys) d
    pure (r, ρ2.set i (.ow d'))
  | _ => .no
/-- a call that lends a new object, its last argument -/
def eCallT (F : FnR) (pre : List Ev) (e : Ev) : Ev := fun ρ => do
  let (xs, ρ1) ← evs pre ρ
  let (t, ρ2) ← e ρ1
  if t.2 then do
    let (r, _) ← F xs t.1
    pure (r, ρ2)
  else .no
def isIns (c : Nat) : D → R Unit
  | .ins c' _ => if c' = c then .ok () else .no
  | _ => .no
/-- o.m(..), o an instance of class c; with keywords: g puts the values in the parameters' order -/
def eMeth (c : Nat) (F : Fn) (a : Ev) (ms : List Ev) : Ev := fun ρ => do
  let (x, ρ1) ← val a ρ
  isIns c x
  let (xs, ρ2) ← evs ms ρ1
  let r ← F (x :: xs)
  pure (r, ρ2)
def eMethK (c : Nat) (F : Fn) (g : List D → List D → List D) (a : Ev) (ms ks : List Ev) : Ev := fun ρ => do
  let (x, ρ1) ← val a ρ
  isIns c x
  let (xs, ρ2) ← evs ms ρ1
  let (zs, ρ3) ← evs ks ρ2
  let r ← F (g (x :: xs) zs)
  pure (r, ρ3)
/-- f(.., k = v) -/
def eNK (F : Fn) (g : List D → List D → List D) (ms ks : List Ev) : Ev := fun ρ => do
  let (xs, ρ2) ← evs ms ρ
  let (zs, ρ3) ← evs ks ρ2
  let r ← F (g xs zs)
  pure (r, ρ3)
/-- one of two readings of an operator -/
def sel (g : D → D → Bool) (f h : D → D → R Rv) : D → D → R Rv := fun x y => if g x y then f x y else h x y
def sel1 (g : D → Bool) (f h : D → R Rv) : D → R Rv := fun x => if g x then f x else h x
def isC (c : Nat) : D → Bool
  | .ins c' _ => decide (c' = c)
  | _ => false
def cc (c : Nat) (x y : D) : Bool := isC c x && isC c y
def hasTy : D → Bool
  | .non => true
  | .bl _ => true
  | .int _ => true
  | .str _ => true
  | .tup _ => true
  | .lst _ => true
  | .dic _ => true
  | .ins _ _ => true
  | _ => false
def cany (c : Nat) (x y : D) : Bool := isC c x && hasTy y
/-! ### statements -/
inductive Out where
  | nx | bk | ct
  | rt (r : Rv)
abbrev Sv := Env → R (Out × Env)
def sNext : Sv := fun ρ => .ok (.nx, ρ)
def sNo : Sv := fun _ => .no
def sSeq (s t : Sv) : Sv := fun ρ => do
  let (o, ρ1) ← s ρ
  match o with
  | .nx => t ρ1
  | o => .ok (o, ρ1)
/-- what a name holds then: its own object, if it is new and w says so -/
def keep (w : Bool) (r : Rv) : Slot := if r.2 && w then .ow r.1 else .sh r.1
def sAsg (w : Bool) (i : Nat) (e : Ev) : Sv := fun ρ => do
  let (r, ρ1) ← e ρ
  pure (.nx, ρ1.set i (keep w r))
def sPar (w : Bool) (i j : Nat) (a b : Ev) : Sv := fun ρ => do
  let (r, ρ1) ← a ρ
  let (q, ρ2) ← b ρ1
  pure (.nx, (ρ2.set i (keep w r)).set j (keep w q))
abbrev Tg := D → Env → R Env
def gN (i : Nat) : Tg := fun d ρ => .ok (ρ.set i (.sh d))
def gGo : List Tg → List D → Env → R Env
  | [], [], ρ => .ok ρ
  | g :: gs, d :: ds, ρ => do
    let ρ1 ← g d ρ
    gGo gs ds ρ1
  | _, _, _ => .no
def gT (gs : List Tg) : Tg := fun d ρ =>
  match d with
  | .tup ds => gGo gs ds ρ
  | .kt ds => gGo gs ds ρ
  | _ => .no
def sAsgT (g : Tg) (e : Ev) : Sv := fun ρ => do
  let (x, ρ1) ← val e ρ
  let ρ2 ← g x ρ1
  pure (.nx, ρ2)
def sExpr (e : Ev) : Sv := fun ρ => do
  let (_, ρ1) ← val e ρ
  pure (.nx, ρ1)
def sRet (e : Ev) : Sv := fun ρ => do
  let (r, ρ1) ← e ρ
  pure (.rt r, ρ1)
/-- return x, x a local name: its object goes out -/
def sRetV (i : Nat) : Sv := fun ρ => do
  let (r, ρ1) ← eMove i ρ
  pure (.rt r, ρ1)
def sRetN : Sv := fun ρ => .ok (.rt (.non, false), ρ)
def sIf (t : Ev) (a b : Sv) : Sv := fun ρ => do
  let (x, ρ1) ← val t ρ
  let c ← isB x
  if c then a ρ1 else b ρ1
abbrev Iv := Env → R (List D × Env)
def forGo (g : Tg) (body : Sv) : List D → Env → R (Out × Env)
  | [], ρ => .ok (.nx, ρ)
  | d :: ds, ρ => do
    let ρ1 ← g d ρ
    let (o, ρ2) ← body ρ1
    match o with
    | .nx => forGo g body ds ρ2
    | .ct => forGo g body ds ρ2
    | .bk => .ok (.nx, ρ2)
    | .rt r => .ok (.rt r, ρ2)
def sFor (it : Iv) (g : Tg) (body : Sv) : Sv := fun ρ => do
  let (ds, ρ1) ← it ρ
  forGo g body ds ρ1
def whileGo (t : Ev) (body : Sv) (n : Nat) : Env → R (Out × Env) :=
  Nat.rec (fun _ => .no) (fun _ ih ρ => do
    let (x, ρ1) ← val t ρ
    let c ← isB x
    if c then do
      let (o, ρ2) ← body ρ1
      match o with
      | .nx => ih ρ2
      | .ct => ih ρ2
      | .bk => .ok (.nx, ρ2)
      | .rt r => .ok (.rt r, ρ2)
    else .ok (.nx, ρ1)) n
def fuel : Nat := 2 ^ 9000
def sWhile (t : Ev) (body : Sv) : Sv := fun ρ => whileGo t body fuel ρ
/-- slot i's own object is changed by f; the answer -/
def isL : D → R Unit
  | .lst _ => .ok ()
  | _ => .no
def eMut (f : D → List D → R (D × D)) (i : Nat) (as : List Ev) : Ev := fun ρ => do
  let d0 ← look ρ i
  isL d0
  let (xs, ρ1) ← evs as ρ
  match ρ1[i]? with
  | some (.ow d) => do
    let (r, d') ← f d xs
    pure ((r, false), ρ1.set i (.ow d'))
  | _ => .no
/-- slot[e] = v : the value first -/
def sPut (f : D → D → D → R D) (i : Nat) (e v : Ev) : Sv := fun ρ => do
  let (y, ρ1) ← val v ρ
  let _ ← look ρ1 i
  let (x, ρ2) ← val e ρ1
  match ρ2[i]? with
  | some (.ow d) => do
    let d' ← f d x y
    pure (.nx, ρ2.set i (.ow d'))
  | _ => .no
/-- self.f = e, the k-th attribute -/
def sFld (c k : Nat) (e : Ev) : Sv := fun ρ => do
  let (y, ρ1) ← val e ρ
  match (ρ1[0]? : Option Slot) with
  | some (.ow (.ins c' fs)) => if c' = c ∧ k = fs.length then .ok (.nx, ρ1.set 0 (.ow (.ins c' (fs ++ [y])))) else .no
  | _ => .no
/-- x.get(k, z): x a value; the object of slot i -/
def eGet (f : D → D → D → R Rv) (a k z : Ev) : Ev := fun ρ => do
  let (x, ρ1) ← val a ρ
  let (y, ρ2) ← val k ρ1
  let (w, ρ3) ← val z ρ2
  let r ← f x y w
  pure (r, ρ3)
def eGetS (f : D → D → D → R Rv) (i : Nat) (k z : Ev) : Ev := fun ρ => do
  let d0 ← look ρ i
  let (y, ρ2) ← val k ρ
  let (w, ρ3) ← val z ρ2
  let d ← look ρ3 i
  let _ ← f d0 y w
  let r ← f d y w
  pure (r, ρ3)
/-! ### comprehensions -/
def wipeS (ρ : Env) : List Nat → Env
  | [] => ρ
  | i :: is => (wipeS ρ is).set i .un
/-- the slots vs as they were in ρ0 -/
def backS (ρ0 ρ : Env) : List Nat → Env
  | [] => ρ
  | i :: is => (backS ρ0 ρ is).set i (ρ0.getD i .un)
def noOw (ρ : Env) (vs : List Nat) : Bool := vs.all fun i => match ρ[i]? with | some (.ow _) => false | some _ => true | none => false
/-- the tests of a comprehension -/
def cond : Option Ev → Env → R (Bool × Env)
  | none, ρ => .ok (true, ρ)
  | some t, ρ => do
    let (x, ρ') ← val t ρ
    let b ← isB x
    pure (b, ρ')
def lcGo (g : Tg) (c : Option Ev) (e : Ev) (vs : List Nat) : List D → List D → Env → R (List D × Env)
  | [], acc, ρ => .ok (acc, ρ)
  | d :: ds, acc, ρ => do
    let ρ1 ← g d (wipeS ρ vs)
    let (k, ρ2) ← cond c ρ1
    if k then do
      let (y, ρ3) ← val e ρ2
      lcGo g c e vs ds (acc ++ [y]) ρ3
    else lcGo g c e vs ds acc ρ2
def eLc (it : Iv) (g : Tg) (c : Option Ev) (e : Ev) (vs : List Nat) : Ev := fun ρ => do
  let (ds, ρ1) ← it ρ
  if noOw ρ1 vs && decide (ds.length ≤ 1000) then do
    let (acc, ρ2) ← lcGo g c e vs ds [] ρ1
    pure ((.lst acc, true), backS ρ1 ρ2 vs)
  else .no
/-! ### dicts -/
section
variable {κ : Type} [DecidableEq κ]
def dget (kvs : List (κ × D)) (k : κ) : Option D := (kvs.find? fun kv => decide (kv.1 = k)).map (·.2)
def dput (kvs : List (κ × D)) (k : κ) (v : D) : List (κ × D) :=
  if (kvs.any fun kv => decide (kv.1 = k)) = true then kvs.map (fun kv => if kv.1 = k then (kv.1, v) else kv) else kvs ++ [(k, v)]
end
def keyOf : D → R Ky
  | .int i => .ok (.inl i)
  | .str s => .ok (.inr s)
  | _ => .no
def keysOf : List D → R (List Ky)
  | [] => .no
  | [d] => do
    let k ← keyOf d
    pure [k]
  | d :: ds => do
    let k ← keyOf d
    let ks ← keysOf ds
    pure (k :: ks)
def kyD : Ky → D
  | .inl i => .int i
  | .inr s => .str s
/-! ### defs -/
def slots (n : Nat) (ds : List D) : Env := ds.map Slot.sh ++ List.replicate (n - ds.length) .un
def endOf : Out → R Rv
  | .nx => .ok (.non, false)
  | .rt r => .ok r
  | _ => .no
def mkFn (n p : Nat) (body : Sv) : Fn := fun ds =>
  if ds.length = p then do
    let (o, _) ← body (slots n ds)
    endOf o
  else .no
/-- the parameter at j is lent -/
def mkFnR (n p j : Nat) (body : Sv) : FnR := fun ds d =>
  if ds.length + 1 = p ∧ j < p then do
    let (o, ρ) ← body ((slots n (ds.take j ++ d :: ds.drop j)).set j (.ow d))
    let r ← endOf o
    match ρ[j]? with
    | some (.ow d') => .ok (r, d')
    | _ => .no
  else .no
/-- C(..) by its __init__: self is lent -/
def mkObj (c : Nat) (init : FnR) : Fn := fun ds => do
  let (r, d) ← init ds (.ins c [])
  match r with
  | (.non, false) => .ok (d, false)
  | _ => .no
end DY

set_option Elab.async false
set_option linter.all false
set_option maxRecDepth 100000
set_option maxHeartbeats 4000000
/-! SLG: contracts of defs that are called while nothing is being shown (so that repr of containers can be read). -/
namespace SL
open PySem L2 PySem.Spec PyProof.Rows
structure Room (k : Nat) (A : Around) : Prop extends L2.Room k A where
  g : A.guards = some []
section
variable {j k : Nat} {A : Around}
theorem Room.mono (r : Room k A) (h : j ≤ k) : Room j A := ⟨r.toRoom.mono h, r.g⟩
theorem Room.deeper (r : Room (k + 1) A) (env : Env) : Room k (A.deeper env) := ⟨r.toRoom.deeper env, r.g⟩
theorem Room.in1 (r : Room (k + 1) A) : Room k A.in1 := ⟨r.toRoom.in1, r.g⟩
theorem Room.make (r : Room (k + 1) A) (C : Addr) (us : List Value) (kw : List (Str × Value)) : Room k (A.under (.builtin "type.__call__" ⟨.ref C :: us, kw⟩)) := ⟨r.toRoom.make C us kw, by
  have : (A.under (.builtin "type.__call__" ⟨.ref C :: us, kw⟩)).guards = A.guards := by
    first | rfl | simp [Around.under, Code.guards, Code.isGuard, guardIds, pushGuards]
  rw [this]; exact r.g⟩
end
/-- what a def promises -/
structure FnOk (P : Program) (w : World) (K : PySem.W.Frag) (mg : Str → Option Value) (base : Heap) (CX : CXT) (k : Nat) (f : Addr) (fd : FuncData) (ps : List Str) (sp : Sp) : Prop where
  len : ∀ vs H Q E, sp vs H Q E → vs.length = ps.length
  run : ∀ (A : Around) (outer : List Env) (s : Shared) (H : Hp) (args : Args) (us : List Value) (vs : List V) (Q : VK) (E : XK), Room k A → Env0 P w K mg base A outer s H → BindsTo s fd args (ps.zip us) → Vals vs us → sp vs H Q E → codeAny (model P w) A (.call (.ref f) args) (CR CX outer P w H s Q E) s
section
variable {X : Cx} {CX : CXT} {k n : Nat} {f C : Addr} {fd : FuncData} {ps ks : List Str} {sp : Sp} {E : XK} {dvs : List V} {ds : List Value} {x m : Str} {p pos apos : Pos} {e o : Expr} {es : List Expr} {ta : TE} {t tk : TA} {kws : List Keyword} {g : List Value → List Value → List Value} {gV : List V → List V → List V}
variable {pins : List (Addr × Obj)} {σ : L2.St} {H : Hp} {s : Shared} {Q : VK} {us ws : List Value} {vs zs : List V}
/-- behind a call -/
def AftR (X : Cx) (R : Value → Shared → Prop) : Result → Shared → Prop
  | .ok (.ret u), s' => R u s'
  | .ok _, _ => False
  | .error e, s' => X.xe e s'
theorem after_call (hx : Passes CX X E) (I : Inv X pins σ H s) {r : Result} {s' : Shared} (h : CR CX X.stack X.prog X.w H s Q E r s') : AftR X (EP X pins σ Q) r s' := by
  cases r with
  | error e => exact hx pins σ H s e s' I h
  | ok fl =>
    cases fl with
    | ret u => exact I.after h
    | next => exact h
    | brk => exact h
    | cont => exact h
theorem run_fn (F : FnOk X.prog X.w X.K X.mg X.base CX k f fd ps sp) (hr : Room k X.A) (hb : Binds X.K fd ps ds) (hd : Vals dvs ds) (hx : Passes CX X E) (I : Inv X pins σ H s) (r : Vals vs us) (h : sp (vs ++ dvs) H Q E) : wpAny (model X.prog X.w) X.A (call (.ref f) us) (EP X pins σ Q) X.xe s := by
  have r2 : Vals (vs ++ dvs) (us ++ ds) := r.append hd
  refine wpAny_call (codeAny_mono (F.run X.A X.stack s H ⟨us, []⟩ (us ++ ds) (vs ++ dvs) Q E hr I.env0 (hb s us I.kIn (r2.length.symm.trans (F.len _ _ _ _ h))) r2 h) fun q s' hq => ?_)
  have z := after_call hx I hq
  match q, z with
  | .error _, z => exact z
  | .ok (.ret _), z => exact z
theorem run_fnN (F : FnOk X.prog X.w X.K X.mg X.base CX k f fd ps sp) (hr : Room k X.A) (hb : KBn X.K fd ps n ks g gV) (hx : Passes CX X E) (I : Inv X pins σ H s) (r : Vals vs us) (rz : Vals zs ws) (l1 : vs.length = n) (l2 : zs.length = ks.length) (h : sp (gV vs zs) H Q E) : wpAny (model X.prog X.w) X.A (call (.ref f) us (ks.zip ws)) (EP X pins σ Q) X.xe s := by
  refine wpAny_call (codeAny_mono (F.run X.A X.stack s H ⟨us, ks.zip ws⟩ (g us ws) (gV vs zs) Q E hr I.env0 (hb.to s us ws I.kIn (r.length.symm.trans l1) (rz.length.symm.trans l2)) (hb.rel r rz) h) fun q s' hq => ?_)
  have z := after_call hx I hq
  match q, z with
  | .error _, z => exact z
  | .ok (.ret _), z => exact z
/-- a new object: its place, its own dict, and what its maker promises -/
theorem made_end {x : Addr} (I : Inv X pins σ H s) (hx : Passes CX X E) {q : Result} {s' : Shared} (hq : CR CX X.stack X.prog X.w H s (fun v H2 => v = .non ∧ Q (.ref x) H2) E q s') : AftR X (fun u s' => u = .none ∧ EP X pins σ Q (.ref x) s') q s' := by
  have z := after_call hx I hq
  match q, z with
  | .error _, z => exact z
  | .ok (.ret u), ⟨v, H', I3, rv, ev, q3⟩ =>
    subst ev
    exact ⟨rv, ⟨V.ref x, H', I3, rfl, q3⟩⟩
theorem run_makeN (M : Mk X.K C f) (F : FnOk X.prog X.w X.K X.mg X.base CX k f fd ps sp) (hr : Room (k + 1) X.A) (hb : KBn X.K fd ps (n + 1) ks g gV) (hx : Passes CX X E) (I : Inv X pins σ H s) (r : Vals vs us) (rz : Vals zs ws) (l1 : vs.length = n) (l2 : zs.length = ks.length)
    (h : ∀ x dx, H x = none → H dx = none → dx ≠ x → sp (gV (.ref x :: vs) zs) (upd (upd H dx (.own x)) x (.ins C dx [])) (fun v H2 => v = .non ∧ Q (.ref x) H2) E) : wpAny (model X.prog X.w) X.A (call (.ref C) us (ks.zip ws)) (EP X pins σ Q) X.xe s := by
  have hq := h (s.heap.objs.size + 1) s.heap.objs.size (I.hok.fresh (Nat.le_succ _)) (I.hok.fresh (Nat.le_refl _)) (Nat.ne_of_lt (Nat.lt_succ_self _))
  have I2 := Inv.made (C := C) I
  have r1 : Vals (V.ref (s.heap.objs.size + 1) :: vs) (Value.ref (s.heap.objs.size + 1) :: us) := .cons rfl r
  have e1 : (Value.ref (s.heap.objs.size + 1) :: us).length = n + 1 := r1.length.symm.trans (congrArg Nat.succ l1)
  refine wpAny_call (make_map (f := f) I.kIn M.makes M.init (beq_iff_eq.mp M.fn) (codeAny_mono (F.run _ X.stack _ _ ⟨Value.ref (s.heap.objs.size + 1) :: us, ks.zip ws⟩ (g (Value.ref (s.heap.objs.size + 1) :: us) ws) _ _ E (hr.make C us (ks.zip ws)) (I2.env0.make C us (ks.zip ws)) (hb.to _ (Value.ref (s.heap.objs.size + 1) :: us) ws I2.kIn e1 (rz.length.symm.trans l2)) (hb.rel r1 rz) hq) fun q s' hq' => ?_))
  have z := made_end I2 hx hq'
  match q, z with
  | .error _, z => exact z
  | .ok (.ret _), z => exact z
theorem run_make (M : Mk X.K C f) (F : FnOk X.prog X.w X.K X.mg X.base CX k f fd ps sp) (hr : Room (k + 1) X.A) (hb : Binds X.K fd ps ds) (hd : Vals dvs ds) (hx : Passes CX X E) (I : Inv X pins σ H s) (r : Vals vs us)
    (h : ∀ x dx, H x = none → H dx = none → dx ≠ x → sp (.ref x :: (vs ++ dvs)) (upd (upd H dx (.own x)) x (.ins C dx [])) (fun v H2 => v = .non ∧ Q (.ref x) H2) E) : wpAny (model X.prog X.w) X.A (call (.ref C) us) (EP X pins σ Q) X.xe s := by
  have hq := h (s.heap.objs.size + 1) s.heap.objs.size (I.hok.fresh (Nat.le_succ _)) (I.hok.fresh (Nat.le_refl _)) (Nat.ne_of_lt (Nat.lt_succ_self _))
  have I2 := Inv.made (C := C) I
  have r2 : Vals (V.ref (s.heap.objs.size + 1) :: (vs ++ dvs)) (Value.ref (s.heap.objs.size + 1) :: (us ++ ds)) := .cons rfl (r.append hd)
  refine wpAny_call (make_map (f := f) I.kIn M.makes M.init (beq_iff_eq.mp M.fn) (codeAny_mono (F.run _ X.stack _ _ ⟨Value.ref (s.heap.objs.size + 1) :: us, []⟩ (Value.ref (s.heap.objs.size + 1) :: (us ++ ds)) _ _ E (hr.make C us []) (I2.env0.make C us []) (hb _ (Value.ref (s.heap.objs.size + 1) :: us) I2.kIn (r2.length.symm.trans (F.len _ _ _ _ hq))) r2 hq) fun q s' hq' => ?_))
  have z := made_end I2 hx hq'
  match q, z with
  | .error _, z => exact z
  | .ok (.ret _), z => exact z
/-! calls as they are written -/
theorem pe_call (F : FnOk X.prog X.w X.K X.mg X.base CX k f fd ps sp) (hr : Room k X.A) (hg : Gl X x) (hm : X.mg x = some (.ref f)) (hk : PySem.W.keepIn X.K (.ref f) = true) (hb : Binds X.K fd ps ds) (hd : Vals dvs ds) (hx : Passes CX X E)
    (ha : PA X (e :: es) t) (hdb : (x == ("__debug__" : Str)) = false := by decide) (he : starEach (e :: es) X.env = (false, eval e X.env) :: starEach es X.env := by rfl) (hpl : (backTo pos (starEach es X.env)).any (·.1) = false := by rfl) : PE X (.Call (.Name x p) (e :: es) [] pos) (tCall sp dvs E t) :=
  ⟨fun pins s σ H _ I h => wpAny_Call_Name_kw (ld_glob I hg hm (PySem.W.callWith_K (h₀ := X.base) I.ok.mod.kin hk (thn (ha.run pos pins s σ H _ I h) fun _ _ ⟨_, _, I1, r, q⟩ => ⟨I1.kIn, run_fn F hr hb hd hx I1 r q⟩) he hpl) hdb)⟩
theorem pe_make (M : Mk X.K C f) (F : FnOk X.prog X.w X.K X.mg X.base CX k f fd ps sp) (hr : Room (k + 1) X.A) (hg : Gl X x) (hm : X.mg x = some (.ref C)) (hb : Binds X.K fd ps ds) (hd : Vals dvs ds) (hx : Passes CX X E)
    (ha : PA X (e :: es) t) (hdb : (x == ("__debug__" : Str)) = false := by decide) (he : starEach (e :: es) X.env = (false, eval e X.env) :: starEach es X.env := by rfl) (hpl : (backTo pos (starEach es X.env)).any (·.1) = false := by rfl) : PE X (.Call (.Name x p) (e :: es) [] pos) (tMake C sp dvs E t) :=
  ⟨fun pins s σ H _ I h => wpAny_Call_Name_kw (ld_glob I hg hm (PySem.W.callWith_K (h₀ := X.base) I.ok.mod.kin M.kp (thn (ha.run pos pins s σ H _ I h) fun _ _ ⟨_, _, I1, r, q⟩ => ⟨I1.kIn, run_make M F hr hb hd hx I1 r q⟩) he hpl) hdb)⟩
theorem pe_makeK0 (M : Mk X.K C f) (F : FnOk X.prog X.w X.K X.mg X.base CX k f fd ps sp) (hr : Room (k + 1) X.A) (hg : Gl X x) (hm : X.mg x = some (.ref C)) (hb : KBn X.K fd ps 1 ks g gV) (hx : Passes CX X E) (hkw : PK X kws tk)
    (hall : (backToKw pos (keywordEach kws X.env)).all (·.1.isSome) = true := by rfl) (hks : (backToKw pos (keywordEach kws X.env)).filterMap (·.1) = ks := by rfl) (hdb : (x == ("__debug__" : Str)) = false := by decide)
    (hpl : ((backTo pos (starEach [] X.env)).any (·.1) || (backToKw pos (keywordEach kws X.env)).any (·.1.isNone)) = false := by rfl) : PE X (.Call (.Name x p) [] kws pos) (tMakeK C 0 ks.length sp gV E tNil tk) :=
  ⟨fun pins s σ H _ I h => wpAny_Call_Name_kw (ld_glob I hg hm (PySem.W.callWith_KW0 (h₀ := X.base) I.ok.mod.kin M.kp hall (thn (hkw.run pos pins s σ H _ I h) fun _ _ ⟨_, _, I2, rz, _, l2, q2⟩ => ⟨I2.kIn, by rw [hks]; exact run_makeN (us := []) (vs := []) M F hr hb hx I2 .nil rz rfl l2 q2⟩) hpl) hdb)⟩
end
/-! a def by its body -/
theorem fn_of {CX : CXT} {P : Program} {w : World} {K : PySem.W.Frag} {mg : Str → Option Value} {base : Heap} {k : Nat} {f : Addr} {name qual : Str} {params : Arguments} {body : List Stmt} {scope : Scope} {dV kV doc pm cdv ct oc : Value} {an od : Option Addr} {osl : Array (Option Value)} {N ps : List Str} {sp : Sp}
    (lk : K.lookup f = some ⟨oc, od, .func (PySem.W.fnOf name qual params body scope dV kV doc pm an cdv ct), osl⟩) (hcd : PySem.W.codeIn K cdv qual = true) (S : FnScope N ps scope) (len : ∀ vs H Q E, sp vs H Q E → vs.length = ps.length)
    (hbody : ∀ (A : Around) (outer : List Env) (s : Shared) (H : Hp) (vs : List V) (Q : VK) (E : XK), Room k (A.deeper (envOfC qual scope s.heap.objs.size f cdv)) → sp vs H Q E → ∃ t, PSs (cxOf CX P w K mg base N qual scope f cdv A outer s H E) body t ∧ t { nx := fun _ H' => Q .non H', rt := Q } (start N vs) H) :
    FnOk P w K mg base CX (k + 1) f (PySem.W.fnOf name qual params body scope dV kV doc pm an cdv ct) ps sp := ⟨len, fun A outer s H args us vs Q E hr e0 hb r hsp => by
  have stay : ∀ b o, base.get? b = some o → s.heap.get? b = some o := fun b o e => (e0.bs b o e).1
  have KX : K.In s.heap := e0.mod.kin.keeps stay
  refine codeAny_call_function hr.toRoom.depth (KX _ _ lk) rfl S.co S.gen rfl (PySem.W.codeRec_of KX hcd) (hb _ _ _ _ (wpAny_newFunctionEnv_cells S.kind (fun ⟨n, v⟩ hy => (S.par n (List.of_mem_zip hy).1).imp id fun q => ⟨q, PySem.W.cellsFrom_some _ _ _ (.inl q)⟩) fun env he s1 x => ?_))
  subst he
  refine ⟨(e0.mod.nolimit.keeps stay).keeps x.toInCall.keep, codeAny_func ?_⟩
  obtain ⟨t, ht, hq⟩ := hbody A outer s H vs Q E (hr.deeper _) hsp
  refine wpAny_mono (ht.run [] s1 (start N vs) H _ (inv_start S hr.toRoom.hd e0 (len _ _ _ _ hsp) r x) hq) (fun fl s' hs => ?_) fun _ _ hs => hs
  cases fl with
  | ret u => obtain ⟨v, σ', H', J, rv, q⟩ := hs; exact ⟨v, H', J.os, J.bare, J.base, J.hok, rv, q⟩
  | next => obtain ⟨σ', H', J, q⟩ := hs; exact ⟨V.non, H', J.os, J.bare, J.base, J.hok, rfl, q⟩
  | brk => obtain ⟨_, _, _, q⟩ := hs; exact q.elim
  | cont => obtain ⟨_, _, _, q⟩ := hs; exact q.elim⟩
section
variable {P : Program} {w : World} {K : PySem.W.Frag} {mg : Str → Option Value} {base : Heap} {x qual : Str} {f : Addr} {fd : FuncData} {N ps : List Str} {k : Nat} {sp : Sp}
theorem fun_ok {st : Stmt} (F : Fun K x qual st f fd) (S : FnScope N ps (defScope st)) (len : ∀ vs H Q E, sp vs H Q E → vs.length = ps.length)
    (hbody : ∀ (cdv : Value) (A : Around) (outer : List Env) (s : Shared) (H : Hp) (vs : List V) (Q : VK) (E : XK), Room k (A.deeper (envOfC qual (defScope st) s.heap.objs.size f cdv)) → sp vs H Q E → ∃ t, PSs (cxOf (L2.CX P w) P w K mg base N qual (defScope st) f cdv A outer s H E) (defBody st) t ∧ t { nx := fun _ H' => Q .non H', rt := Q } (start N vs) H) : FnOk P w K mg base (L2.CX P w) (k + 1) f fd ps sp := by
  obtain ⟨oc, od, kV, doc, pm, an, cdv, ct, osl, rfl, lk, hcd⟩ := F.ex
  exact fn_of lk hcd S len (hbody cdv)
theorem funD_ok {params : Arguments} {body : List Stmt} {scope : Scope} {dvs : List V} {kws : List (Str × V)} (F : FunD K x qual params body scope dvs kws f fd) (S : FnScope N ps scope) (len : ∀ vs H Q E, sp vs H Q E → vs.length = ps.length)
    (hbody : ∀ (cdv : Value) (A : Around) (outer : List Env) (s : Shared) (H : Hp) (vs : List V) (Q : VK) (E : XK), Room k (A.deeper (envOfC qual scope s.heap.objs.size f cdv)) → sp vs H Q E → ∃ t, PSs (cxOf (L2.CX P w) P w K mg base N qual scope f cdv A outer s H E) body t ∧ t { nx := fun _ H' => Q .non H', rt := Q } (start N vs) H) : FnOk P w K mg base (L2.CX P w) (k + 1) f fd ps sp := by
  obtain ⟨oc, od, dV, kV, doc, pm, an, cdv, ct, osl, rfl, lk, hcd, _, _⟩ := F.ex
  exact fn_of lk hcd S len (hbody cdv)
end
end SL

set_option Elab.async false
set_option linter.all false
set_option maxRecDepth 100000
set_option maxHeartbeats 4000000
namespace SL
open PySem L2 PySem.Spec PyProof.Rows

section
variable {X : Cx} {pins : List (Addr × Obj)} {σ : L2.St} {H : Hp} {s : Shared} {a C dx : Addr} {fs : List (Str × V)}
theorem inst_of (I : Inv X pins σ H s) (e : H a = some (.ins C dx fs)) : ∃ od, PySem.W.InstAt s.heap a (PySem.W.instObj C dx) C (some od) := by
  obtain ⟨mA, O, _⟩ := ins_get I.hok e
  obtain ⟨od, J, _⟩ := O.look
  exact ⟨od, J⟩
theorem back_of {Q : VK} {u : Value} {s' : Shared} (h : EP X pins σ Q u s') : PySem.W.CmpBack (EP X pins σ Q) u s' := by
  obtain ⟨v, H', I, r, q⟩ := h
  cases v with
  | non => cases (show u = Value.none from r); exact ⟨.non, H', I, rfl, q⟩
  | bl b => cases (show u = Value.bool b from r); exact ⟨.bl b, H', I, rfl, q⟩
  | int i => obtain ⟨t, e⟩ := (show ∃ t, u = Value.int i t from r); subst e; exact ⟨.int i, H', I, ⟨t, rfl⟩, q⟩
  | str x => obtain ⟨t, e⟩ := (show ∃ t, u = Value.str x t from r); subst e; exact ⟨.str x, H', I, ⟨t, rfl⟩, q⟩
  | byt x => obtain ⟨t, e⟩ := (show ∃ t, u = Value.bytes x t from r); subst e; exact ⟨.byt x, H', I, ⟨t, rfl⟩, q⟩
  | flt x => obtain ⟨t, e⟩ := (show ∃ t, u = Value.float x t from r); subst e; exact ⟨.flt x, H', I, ⟨t, rfl⟩, q⟩
  | ref b => cases (show u = Value.ref b from r); exact ⟨.ref b, H', I, rfl, q⟩
  | ty n => cases (show u = Value.type n from r); exact ⟨.ty n, H', I, rfl, q⟩
end

/-- what the class at C must show for an operator of its own -/
structure OwnOp (K : PySem.W.Frag) (C f : Addr) (name : Str) : Prop where
  at_ : PySem.W.findIn K (.ref C) name = some (some (.ref f))
  fn : PySem.W.isFn K (.ref f) = true

section
variable {X : Cx} {CX : CXT} {k : Nat} {C f : Addr} {fd : FuncData} {ps : List Str} {sp : Sp} {E : XK}

end

/-! ### an int on the left of an own operator; own == and != -/
section
open PySem.W
variable {prog : Program} {w : World} {A : Around} {E : Value → Shared → Prop} {s : Shared} {K : Frag} {y C L f f0 dx : Addr} {h₀ : Heap} {m : Str → Option Value} {od : Option Obj}
end

/-! ### own ==, != ; an int == own -/
section
open PySem.W
variable {prog : Program} {w : World} {A : Around} {E : Value → Shared → Prop} {s : Shared} {K : Frag} {x y C L f dx : Addr} {h₀ : Heap} {m : Str → Option Value} {od : Option Obj} {ox : Obj}
theorem check_own {M : Model} {id owner n : String} {rest : List Value} {Q : Unit → Shared → Prop} (hk : builtinKind id = some .slot) (hs : splitId id = some (owner, n)) (ha : argsOk id ⟨.ref x :: rest, []⟩)
    (X : K.In s.heap) (J : InstAt s.heap x ox C od) (hob : subIn K (.ref C) (.type owner) = some true) (hq : Q () s) : wpAny M A (checkBuiltinCall id ⟨.ref x :: rest, []⟩) Q E s := by
  simp only [checkBuiltinCall, hk, hs]
  refine wpAny_bind ?_
  unfold isInstance
  refine wpAny_bind (m := typeOf (.ref x)) (J.type.here ((looks_subIn X hob).here ?_))
  simp only [Bool.not_true, Bool.false_eq_true, if_false]
  cases hsig : Manifest.signature? id with
  | none => exact wpAny_pure hq
  | some sig =>
    simp only [argsOk, hsig] at ha
    have h2 : Bind.checkArgs id sig ⟨.ref x :: rest, []⟩ = pure () := ha
    show wpAny M A (Bind.checkArgs id sig ⟨.ref x :: rest, []⟩) Q E _
    rw [h2]; exact wpAny_pure hq
theorem ifBound_B {M : Model} {name : Str} {T id : String} {args : List Value} {Q : Option Value → Shared → Prop} (X : K.In s.heap) (I : InstAt s.heap x ox C od) (hs : findIn K (.ref C) name = some (some (.builtin id))) (S : Slot T name id)
    (h : wpAny M A (call (.builtin id) (.ref x :: args)) (fun v => Q (some v)) E s) : wpAny M A (callSpecialIfBound? (.ref x) name args) Q E s := by
  simp only [callSpecialIfBound?, bindSpecialIfBound?]
  refine wpAny_holding (wpAny_bind (wpAny_bind (wpAny_bind (I.type.here ((looks_findIn X hs).here ?_)))))
  simp only [S.bind]
  refine wpAny_bind (wpAny_askSetting (wpAny_ite ?_))
  have fin : wpAny M A (call (.builtin id) ([.ref x] ++ args) >>= fun v => pure (some v)) Q E s := wpAny_bind (wpAny_mono h (fun v s' h' => wpAny_pure h') fun _ _ h' => h')
  split
  · exact wpAny_bind (wpAny_pure (wpAny_pure fin))
  · exact wpAny_tryCatch (wpAny_bind (wpAny_pure (wpAny_pure fin)))
theorem objNe_own {b : Value} (X : K.In s.heap) (I : InstAt s.heap x ox C od) (hs : findIn K (.ref C) "__eq__" = some (some (.ref f))) (hf : isFn K (.ref f) = true) (hu : A.units < cLine) {Q : Fin → Shared → Prop}
    (hcall : wpAny (model prog w) A (call (.ref f) [.ref x, b]) (fun v s' => ∃ k, v = .bool k ∧ Q (.done (.ret (.bool (!k)))) s') E s) :
    wpAny (model prog w) A (Builtin.«object.__ne__» ⟨[.ref x, b], []⟩) Q E s := by
  unfold Builtin.«object.__ne__»
  repeat (first
    | with_reducible refine wpAny_cRoomFor hu ?_
    | (refine wpAny_bind (m := callSpecialIfBound? (.ref x) (Str.ofString "__eq__") [b])
        (ifBound_K X I hs hf (wpAny_mono hcall (fun r s' hr => by
          obtain ⟨b, rfl, hq⟩ := hr
          repeat (first | exact hq | exact wpAny_pure hq | exact wpAny_truthy_bool hq | (refine wpAny_bind (m := truthy (.bool _)) (wpAny_truthy_bool ?_)) | wp_step)) fun _ _ e => e)))
    | wp_step)
theorem cmp_ne_own {b tb : Value} {Q : Value → Shared → Prop} (hu : A.units + 1 < cLine) (X : K.In s.heap) (I : InstAt s.heap x ox C od) (hb : Looks (model prog w) s.heap (typeOf b) tb) (hn : notFirst K C tb = true)
    (hne : findIn K (.ref C) "__ne__" = some (some (.builtin "object.__ne__"))) (hob : subIn K (.ref C) (.type "object") = some true) (hs : findIn K (.ref C) "__eq__" = some (some (.ref f))) (hf : isFn K (.ref f) = true)
    (h : wpAny (model prog w) A.in1 (call (.ref f) [.ref x, b]) (fun v s' => ∃ k, v = .bool k ∧ Q (.bool (!k)) s') E s) : wpAny (model prog w) A (richCompare .NotEq (.ref x) b) Q E s := by
  have one : wpAny (model prog w) A (tryCompare (.ref x) "__ne__" b) (fun r s' => ∃ v, r = some v ∧ Q v s') E s := by
    unfold tryCompare
    refine wpAny_bind (ifBound_B X I hne F.cmp_object.ne (wpAny_call (codeAny_call_builtin F.cmp_object.ne.plain F.cmpEntry_ne (check_own F.cmpKind_ne F.cmpSplit_ne (F.cmpArgs_ne _ _) X I hob ?_))))
    refine objNe_own (A := A.in1) X I hs hf hu (wpAny_mono h (fun v s' hv => ?_) fun _ _ e => e)
    obtain ⟨k, rfl, hq⟩ := hv
    exact ⟨k, rfl, wpAny_pure ⟨_, rfl, hq⟩⟩
  unfold richCompare
  simp only [oneThing_ref]
  refine wpAny_holding (wpAny_bind (wpAny_cRoomFor (Nat.lt_of_succ_lt hu) ?_))
  refine wpAny_bind (I.type.here (wpAny_bind (hb.here ?_)))
  split
  · rename_i q
    have e : subIn K tb (.ref C) = some false := by
      rcases Bool.or_eq_true_iff.mp hn with e | e
      · rw [beq_iff_eq.mp e] at q; simp at q
      · exact beq_iff_eq.mp e
    refine wpAny_bind ((looks_subIn X e).here ?_)
    simp only [Bool.false_eq_true, if_false]
    refine wpAny_bind (wpAny_mono one (fun r s' z => ?_) fun _ _ e => e)
    obtain ⟨v, rfl, hq⟩ := z
    exact wpAny_pure hq
  · refine wpAny_bind (wpAny_pure ?_)
    simp only [Bool.false_eq_true, if_false]
    refine wpAny_bind (wpAny_mono one (fun r s' z => ?_) fun _ _ e => e)
    obtain ⟨v, rfl, hq⟩ := z
    exact wpAny_pure hq
end

/-! ### the same over the layer -/
section
variable {X : Cx} {CX : CXT} {k : Nat} {C f f0 : Addr} {fd : FuncData} {ps : List Str} {sp : Sp} {E : XK}
/-- a def called one C unit deeper (out of a built-in) -/
theorem run_fn1 {pins : List (Addr × Obj)} {σ : L2.St} {H : Hp} {s : Shared} {Q : VK} {us : List Value} {vs : List V} {dvs : List V} {ds : List Value} (F : FnOk X.prog X.w X.K X.mg X.base CX k f fd ps sp) (hr : Room (k + 1) X.A) (hb : Binds X.K fd ps ds) (hd : Vals dvs ds) (hx : Passes CX X E)
    (I : Inv X pins σ H s) (r : Vals vs us) (h : sp (vs ++ dvs) H Q E) : wpAny (model X.prog X.w) X.A.in1 (call (.ref f) us) (EP X pins σ Q) X.xe s := by
  have r2 : Vals (vs ++ dvs) (us ++ ds) := r.append hd
  have hl : (us ++ ds).length = ps.length := by rw [← r2.length]; exact F.len _ _ _ _ h
  refine wpAny_call (codeAny_mono (F.run X.A.in1 X.stack s H ⟨us, []⟩ (us ++ ds) (vs ++ dvs) Q E hr.in1 I.env0.in1 (hb s us I.kIn hl) r2 h) fun r s' hq => ?_)
  cases r with
  | error e => exact hx pins σ H s e s' I hq
  | ok fl =>
    cases fl with
    | ret u => exact I.after hq
    | next => exact False.elim hq
    | brk => exact False.elim hq
    | cont => exact False.elim hq

/-- own == y, y of any known type -/
def rEqOwn (K : PySem.W.Frag) (C : Addr) (sp : Sp) (E : XK) : R2 := fun x y H Q => ∃ a dx fs t, x = .ref a ∧ H a = some (.ins C dx fs) ∧ TyX K H y t ∧ PySem.W.notFirst K C t = true ∧ sp [x, y] H Q E
theorem op_eqOwn (o : OwnOp X.K C f "__eq__") (F : FnOk X.prog X.w X.K X.mg X.base CX k f fd ps sp) (hr : Room k X.A) (hb : Binds X.K fd ps []) (hx : Passes CX X E) : OpR X (compareOp .Eq) (rEqOwn X.K C sp E) := by
  intro pins s σ H x y v u Q I rx ry h
  obtain ⟨a, dx, fs, t, rfl, ha, ty, nf, h⟩ := h
  obtain rfl : v = Value.ref a := rx
  obtain ⟨od, J⟩ := inst_of I ha
  obtain ⟨m, Fr⟩ := I.fr
  obtain ⟨P, Z, p, _⟩ := kit_of I ry ty
  unfold compareOp
  exact PySem.W.cmp_K hr.units0 Fr I.mod.kin J (Z.ty _ _ I.kIn p) nf o.at_ o.fn (wpAny_mono (run_fn (us := [.ref a, u]) (vs := [.ref a, y]) F hr hb .nil hx I (.cons rfl (.cons ry .nil)) h) (fun _ _ q => back_of q) fun _ _ e => e)
/-- own != y by the own ==, which answers a truth -/
def rNeOwn (K : PySem.W.Frag) (C : Addr) (sp : Sp) (E : XK) : R2 := fun x y H Q => ∃ a dx fs t, x = .ref a ∧ H a = some (.ins C dx fs) ∧ TyX K H y t ∧ PySem.W.notFirst K C t = true ∧ sp [x, y] H (fun v H' => ∃ b, v = .bl b ∧ Q (.bl (!b)) H') E
theorem op_neOwn (o : OwnOp X.K C f "__eq__") (hne : PySem.W.findIn X.K (.ref C) "__ne__" = some (some (.builtin "object.__ne__"))) (hob : PySem.W.subIn X.K (.ref C) (.type "object") = some true)
    (F : FnOk X.prog X.w X.K X.mg X.base CX k f fd ps sp) (hr : Room (k + 1) X.A) (hb : Binds X.K fd ps []) (hx : Passes CX X E) : OpR X (compareOp .NotEq) (rNeOwn X.K C sp E) := by
  intro pins s σ H x y v u Q I rx ry h
  obtain ⟨a, dx, fs, t, rfl, ha, ty, nf, h⟩ := h
  obtain rfl : v = Value.ref a := rx
  obtain ⟨od, J⟩ := inst_of I ha
  obtain ⟨P, Z, p, _⟩ := kit_of I ry ty
  unfold compareOp
  refine cmp_ne_own (hu_of hr.toRoom) I.kIn J (Z.ty _ _ I.kIn p) nf hne hob o.at_ o.fn (wpAny_mono (run_fn1 (us := [.ref a, u]) (vs := [.ref a, y]) F hr hb .nil hx I (.cons rfl (.cons ry .nil)) h) (fun z s' q => ?_) fun _ _ e => e)
  obtain ⟨v, H', I', r, b, rfl, q⟩ := q
  obtain rfl : z = Value.bool b := r
  exact ⟨b, rfl, .bl (!b), H', I', rfl, q⟩
/-- // by any divisor but 0, below 2 ^ 9000 in size -/
def CDivX (_ j : Int) : Prop := j ≠ 0 ∧ j.natAbs.log2 < 9000
theorem op_fdivX : OpR X (binaryOp .FloorDiv) (rI CDivX fun i j => .int (i.fdiv j)) := opI fun i j _ _ _ _ _ hc q => floordiv_int hc.1 q (.inl (PyProof.noPylong_of_log2 hc.2))
end

/-! ### o.m(.., k = v, ..) -/
def tMethN (C : Addr) (m : Str) (n mk : Nat) (sp : Sp) (gV : List V → List V → List V) (E : XK) (ta : TE) (t tk : TA) : TE := fun σ H Q => ta σ H fun x H1 => ∃ a dx fs, x = .ref a ∧ H1 a = some (.ins C dx fs) ∧ fs.lookup m = none ∧
  t σ H1 fun vs H2 => tk σ H2 fun zs H3 => vs.length = n ∧ zs.length = mk ∧ sp (gV (x :: vs) zs) H3 Q E
section
variable {X : Cx} {CX : CXT} {k n : Nat} {f C : Addr} {fd : FuncData} {ps ks : List Str} {sp : Sp} {E : XK} {m : Str} {p pos apos : Pos} {e o : Expr} {es : List Expr} {kws : List Keyword} {ta : TE} {t tk : TA} {g : List Value → List Value → List Value} {gV : List V → List V → List V}
end
end SL

set_option Elab.async false
set_option linter.all false
set_option maxRecDepth 100000
set_option maxHeartbeats 4000000
namespace SL
open PySem L2 PySem.Spec PyProof.Rows

/-! ### steps of a reading: each lemma is a rule from the goal's head -/
section go
variable {K : PySem.W.Frag} {D : Ends} {σ : L2.St} {H : Hp} {Q : VK} {te ta tb tv : TE} {t t1 t2 : TS} {tt uu : TT} {tA : TA} {tr : TA} {v x y : V} {i j : Nat} {r : R2} {g : TG} {E : XK}
theorem go_seq (h : t1 { D with nx := t2 D } σ H) : tSeq t1 t2 D σ H := h
theorem go_next (h : D.nx σ H) : tNext D σ H := h
theorem go_asg (h : te σ H fun x H1 => g x σ H1 D.nx) : tAsg te g D σ H := h
theorem go_gname {Q : L2.St → Hp → Prop} (h : Q (σ.set i (some v)) H) : gName i v σ H Q := h
theorem go_ret (h : te σ H D.rt) : tRet te D σ H := h
theorem go_drop (h : te σ H fun _ H1 => D.nx σ H1) : tDrop te D σ H := h
theorem go_ifs {c : TT} (h : c σ H fun b H1 => if b = true then t1 D σ H1 else t2 D σ H1) : tIfS c t1 t2 D σ H := h
theorem go_var (e : σ[i]? = some (some v)) (h : Q v H) : tVar i σ H Q := ⟨v, e, h⟩
theorem go_c (h : Q v H) : tC v σ H Q := h
theorem go_op (h : ta σ H fun x H1 => tb σ H1 fun y H2 => r x y H2 Q) : tOp r ta tb σ H Q := h
theorem go_un {r : V → Hp → VK → Prop} (h : ta σ H fun x H1 => r x H1 Q) : tUn r ta σ H Q := h
theorem go_I0 {g : Int → Int → V} {i j : Int} (h : Q (g i j) H) : rI0 g (.int i) (.int j) H Q := ⟨i, j, rfl, rfl, h⟩
theorem go_U {g : Int → V} {i : Int} (h : Q (g i) H) : rU g (.int i) H Q := ⟨i, rfl, h⟩
theorem go_test {Q : Bool → Hp → Prop} (h : te σ H fun x H' => ∃ k, x = .bl k ∧ Q k H') : tTest te σ H Q := h
theorem go_tb {Q : Bool → Hp → Prop} (h : te σ H fun x H' => ∃ k, x = .bl k ∧ Q k H') : tB te σ H Q := h
theorem go_bl {b : Bool} {R : Bool → Prop} (h : R b) : ∃ k, V.bl b = .bl k ∧ R k := ⟨b, rfl, h⟩
theorem go_eqI {i j : Int} (h : Q (.bl (decide (i = j))) H) : rEq (.int i) (.int j) H Q := by
  refine ⟨rfl, ?_⟩
  rw [show decide (V.int i = V.int j) = decide (i = j) by rw [dec_int]; by_cases e : i = j <;> simp [e]]
  exact h
theorem go_neI {i j : Int} (h : Q (.bl (!decide (i = j))) H) : rNe (.int i) (.int j) H Q := by
  refine ⟨rfl, ?_⟩
  rw [show decide (V.int i = V.int j) = decide (i = j) by rw [dec_int]; by_cases e : i = j <;> simp [e]]
  exact h
theorem go_eqB {i j : Bool} (h : Q (.bl (decide (i = j))) H) : rEq (.bl i) (.bl j) H Q := by
  refine ⟨rfl, ?_⟩
  rw [show decide (V.bl i = V.bl j) = decide (i = j) by rw [dec_bl]; cases i <;> cases j <;> rfl]
  exact h
theorem go_neB {i j : Bool} (h : Q (.bl (!decide (i = j))) H) : rNe (.bl i) (.bl j) H Q := by
  refine ⟨rfl, ?_⟩
  rw [show decide (V.bl i = V.bl j) = decide (i = j) by rw [dec_bl]; cases i <;> cases j <;> rfl]
  exact h
theorem go_eqS {i j : Str} (h : Q (.bl (decide (i = j))) H) : rEq (.str i) (.str j) H Q := by
  refine ⟨rfl, ?_⟩
  rw [show decide (V.str i = V.str j) = decide (i = j) by by_cases e : i = j <;> simp [e]]
  exact h
theorem go_neS {i j : Str} (h : Q (.bl (!decide (i = j))) H) : rNe (.str i) (.str j) H Q := by
  refine ⟨rfl, ?_⟩
  rw [show decide (V.str i = V.str j) = decide (i = j) by by_cases e : i = j <;> simp [e]]
  exact h
theorem go_and {Q : Bool → Hp → Prop} (h : tt σ H fun c H1 => if c = true then uu σ H1 Q else Q false H1) : tAnd tt uu σ H Q := h
theorem go_or {Q : Bool → Hp → Prop} (h : tt σ H fun c H1 => if c = true then Q true H1 else uu σ H1 Q) : tOr tt uu σ H Q := h
theorem go_not {Q : Bool → Hp → Prop} (h : tt σ H fun c H1 => Q (!c) H1) : tNot tt σ H Q := h
theorem go_andV (h : ta σ H fun x H1 => ∃ c, x = .bl c ∧ if c = true then tb σ H1 Q else Q (.bl false) H1) : tAndV ta tb σ H Q := h
theorem go_orV (h : ta σ H fun x H1 => ∃ c, x = .bl c ∧ if c = true then Q (.bl true) H1 else tb σ H1 Q) : tOrV ta tb σ H Q := h
theorem go_notV (h : ta σ H fun x H1 => ∃ c, x = .bl c ∧ Q (.bl (!c)) H1) : tNotV ta σ H Q := h
theorem go_if (h : tt σ H fun c H1 => if c = true then ta σ H1 Q else tb σ H1 Q) : tIf tt ta tb σ H Q := h
theorem go_T {A B : Prop} (h : A) : if true = true then A else B := iteT h
theorem go_F {A B : Prop} (h : B) : if false = true then A else B := iteF h
theorem go_nT {A B : Prop} (h : B) : if (!true) = true then A else B := iteF h
theorem go_nF {A B : Prop} (h : A) : if (!false) = true then A else B := iteT h
theorem go_nil {Q : List V → Hp → Prop} (h : Q [] H) : tNil σ H Q := h
theorem go_cons {Q : List V → Hp → Prop} (h : te σ H fun x H1 => tr σ H1 fun xs H2 => Q (x :: xs) H2) : tCons te tr σ H Q := h
theorem go_call {sp : Sp} {dvs : List V} (h : tA σ H fun vs H1 => sp (vs ++ dvs) H1 Q E) : tCall sp dvs E tA σ H Q := h
theorem go_cb {r : List V → Hp → VK → Prop} (h : tA σ H fun vs H1 => r vs H1 Q) : tCB r tA σ H Q := h
theorem go_par {i j : Nat} (h : tA σ H fun vs H1 => ∃ v w, vs = [v, w] ∧ D.nx ((σ.set i (some v)).set j (some w)) H1) : tPar i j tA D σ H := h
theorem go_pair {a b : V} {P : V → V → Prop} (h : P a b) : ∃ v w, [a, b] = [v, w] ∧ P v w := ⟨a, b, rfl, h⟩
end go

/-! ### heaps that grow -/
theorem Same.at {H H' : Hp} {a : Addr} {o : HO} (e : L2.Same H H') (h : H a = some o) : H' a = some o := e a o h
theorem Same.new {H : Hp} {p : Addr} {o : HO} (h : H p = none) : L2.Same H (upd H p o) := fun a u e => by rw [upd_ne (ne_of_none e h)]; exact e
theorem Same.new' {H H' : Hp} {p : Addr} {o : HO} (h : H p = none) (q : upd H p o = H') : L2.Same H H' := q ▸ Same.new h
theorem at_new {H H' : Hp} {p : Addr} {o : HO} (q : upd H p o = H') : H' p = some o := q ▸ upd_same
theorem szL {n : Nat} (h : n ≤ 1000) : n ≤ sizeLine := Nat.le_of_lt (small1000 h)
section go2
variable {K : PySem.W.Frag} {D : Ends} {σ : L2.St} {H : Hp} {Q : VK} {te ta tb tv : TE} {tA : TA} {v x y : V} {i j : Nat} {E : XK}
theorem go_tup (h : tA σ H fun xs H1 => xs.length ≤ sizeLine ∧ ∀ p, H1 p = none → Q (.ref p) (upd H1 p (.tup xs))) : tTup tA σ H Q := h
theorem go_lst (h : tA σ H fun xs H1 => xs.length ≤ sizeLine ∧ ∀ p, H1 p = none → Q (.ref p) (upd H1 p (.lst xs))) : tLst tA σ H Q := h
theorem go_for {wi : TI} {g : TG} {tb : TS} (h : wi σ H fun J H1 => ∃ W : Nat → Nat → L2.St → Hp → Prop, (∃ m, W 0 m σ H1) ∧ ∀ i m σ H, W i m σ H →
  (J.stop i H ∧ D.nx σ H) ∨ (J.go i H ∧ ∃ N : L2.St → Hp → Prop, (∀ σ' H', N σ' H' → ∃ m', m' < m ∧ W (i + 1) m' σ' H') ∧ ∀ x H', J.yld i H x H' → g x σ H' fun σ2 H2 => tb { D with nx := N, ct := N, bk := D.nx } σ2 H2)) : tFor wi g tb D σ H := h
theorem go_iList {tl : TE} {R : It → Hp → Prop} (h : tl σ H fun x H1 => ∃ a, x = .ref a ∧ (∃ xs, SqL K H1 a xs) ∧ R (Itl K a) H1) : iList K tl σ H R := h
theorem go_iTup {tl : TE} {R : It → Hp → Prop} (h : tl σ H fun x H1 => ∃ a, x = .ref a ∧ (∃ xs, SqT K H1 a xs) ∧ R (Itt K a) H1) : iTup K tl σ H R := h
theorem go_iRng1 {R : It → Hp → Prop} (h : tA σ H fun vs H1 => ∃ j : Int, vs = [.int j] ∧ -(2 ^ 62) ≤ j ∧ j < 2 ^ 62 ∧ R (Itr 0 j.toNat) H1) : iRng1 tA σ H R := h
theorem go_iRng2 {R : It → Hp → Prop} (h : tA σ H fun vs H1 => ∃ i j : Int, vs = [.int i, .int j] ∧ (-(2 ^ 62) ≤ i ∧ i < 2 ^ 62 ∧ -(2 ^ 62) ≤ j ∧ j < 2 ^ 62) ∧ R (Itr i (j - i).toNat) H1) : iRng2 tA σ H R := h
theorem go_lc {wi : TI} {g : TG} {tt : TT} {vs : List Nat} (h : wi σ H fun J H1 => ∀ D, H1 D = none → ∃ W : Nat → Nat → Hp → Prop, (∃ m, W 0 m (upd H1 D (.lst []))) ∧ ∀ i m H, W i m H →
  (J.stop i H ∧ Q (.ref D) H) ∨ (J.go i H ∧ ∃ Nx : Hp → Prop, (∀ H', Nx H' → ∃ m', m' < m ∧ W (i + 1) m' H') ∧ ∀ x H', J.yld i H x H' → g x (wipe σ vs) H' fun σ2 H2 => wipe σ2 vs = wipe σ vs ∧ tt σ2 H2 fun b H3 =>
    if b = true then te σ2 H3 fun y H4 => ∃ acc, H4 D = some (.lst acc) ∧ acc.length < sizeLine ∧ Nx (upd H4 D (.lst (acc ++ [y]))) else Nx H3)) : tLc wi g tt te vs σ H Q := h
theorem go_yes {Q : Bool → Hp → Prop} (h : Q true H) : tYes σ H Q := h
/-- o.f of a class that is told -/
def tFldC (C : Addr) (ta : TE) (f : Str) : TE := fun σ H Q => ta σ H fun x H1 => ∃ a dx fs v, x = .ref a ∧ H1 a = some (.ins C dx fs) ∧ fs.lookup f = some v ∧ Q v H1
/-- o.f = e of a class that is told -/
def sFldC (C : Addr) (ta tv : TE) (f : Str) : TS := fun D σ H => tv σ H fun y H1 => ta σ H1 fun x H2 => ∃ a dx fs, x = .ref a ∧ H2 a = some (.ins C dx fs) ∧ fs.length < 1000 ∧ D.nx σ (upd H2 a (.ins C dx (putF f y fs)))
theorem go_fldC {C : Addr} {f : Str} (h : ta σ H fun x H1 => ∃ a dx fs v, x = .ref a ∧ H1 a = some (.ins C dx fs) ∧ fs.lookup f = some v ∧ Q v H1) : tFldC C ta f σ H Q := h
theorem go_sfld {C : Addr} {f : Str} (h : tv σ H fun y H1 => ta σ H1 fun x H2 => ∃ a dx fs, x = .ref a ∧ H2 a = some (.ins C dx fs) ∧ fs.length < 1000 ∧ D.nx σ (upd H2 a (.ins C dx (putF f y fs)))) : sFldC C ta tv f D σ H := h
theorem go_sub {to ti : TE} {t : TSet} {Q : L2.St → Hp → Prop} (h : to σ H fun o H1 => ti σ H1 fun i H2 => t o i v H2 fun H3 => Q σ H3) : gSub to ti t v σ H Q := h
theorem go_sl {r : V → Option Int → Option Int → Hp → VK → Prop} {tl th : TO} (h : te σ H fun x H1 => tl σ H1 fun l H2 => th σ H2 fun u H3 => r x l u H3 Q) : tSl r te tl th σ H Q := h
theorem go_noPart {Q : Option Int → Hp → Prop} (h : Q none H) : tNoPart σ H Q := h
theorem go_part {Q : Option Int → Hp → Prop} (h : te σ H fun x H1 => ∃ i, x = .int i ∧ Q (some i) H1) : tPart te σ H Q := h
theorem go_partE {i : Int} {R : Int → Prop} (h : R i) : ∃ j, V.int i = .int j ∧ R j := ⟨i, rfl, h⟩
def rAbs : List V → Hp → VK → Prop := fun xs H Q => ∃ i, xs = [.int i] ∧ Q (.int (if i < 0 then -i else i)) H
def rMax2 : List V → Hp → VK → Prop := fun xs H Q => ∃ i j, xs = [.int i, .int j] ∧ Q (.int (if j > i then j else i)) H
def rMin2 : List V → Hp → VK → Prop := fun xs H Q => ∃ i j, xs = [.int i, .int j] ∧ Q (.int (if j < i then j else i)) H
def rInt1 : List V → Hp → VK → Prop := fun xs H Q => (∃ i, xs = [.int i] ∧ Q (.int i) H) ∨ ∃ k, xs = [.bl k] ∧ Q (.int (if k then 1 else 0)) H
theorem go_abs {i : Int} (h : Q (.int (if i < 0 then -i else i)) H) : rAbs [.int i] H Q := ⟨i, rfl, h⟩
theorem go_max2 {i j : Int} (h : Q (.int (if j > i then j else i)) H) : rMax2 [.int i, .int j] H Q := ⟨i, j, rfl, h⟩
theorem go_min2 {i j : Int} (h : Q (.int (if j < i then j else i)) H) : rMin2 [.int i, .int j] H Q := ⟨i, j, rfl, h⟩
theorem go_int {i : Int} (h : Q (.int i) H) : rInt1 [.int i] H Q := .inl ⟨i, rfl, h⟩
theorem go_intB {k : Bool} (h : Q (.int (if k then 1 else 0)) H) : rInt1 [.bl k] H Q := .inr ⟨k, rfl, h⟩
theorem go_bm {T : String} {r : V → List V → Hp → VK → Prop} (h : ta σ H fun x H1 => tyV K T x H1 ∧ tA σ H1 fun xs H2 => r x xs H2 Q) : tBM K T r ta tA σ H Q := h
theorem go_meth {C : Addr} {m : Str} {sp : Sp} {dvs : List V} (h : ta σ H fun x H1 => ∃ a dx fs, x = .ref a ∧ H1 a = some (.ins C dx fs) ∧ fs.lookup m = none ∧ tA σ H1 fun vs H2 => sp (x :: (vs ++ dvs)) H2 Q E) : tMeth C m sp dvs E ta tA σ H Q := h
theorem go_methN {C : Addr} {m : Str} {n mk : Nat} {sp : Sp} {gV : List V → List V → List V} {tk : TA} (h : ta σ H fun x H1 => ∃ a dx fs, x = .ref a ∧ H1 a = some (.ins C dx fs) ∧ fs.lookup m = none ∧ tA σ H1 fun vs H2 => tk σ H2 fun zs H3 => vs.length = n ∧ zs.length = mk ∧ sp (gV (x :: vs) zs) H3 Q E) : tMethN C m n mk sp gV E ta tA tk σ H Q := h
theorem go_make {C : Addr} {sp : Sp} {dvs : List V} (h : tA σ H fun vs H1 => ∀ x dx, H1 x = none → H1 dx = none → dx ≠ x → sp (.ref x :: (vs ++ dvs)) (upd (upd H1 dx (.own x)) x (.ins C dx [])) (fun v H2 => v = .non ∧ Q (.ref x) H2) E) : tMake C sp dvs E tA σ H Q := h
theorem go_makeK {C : Addr} {n m : Nat} {sp : Sp} {gV : List V → List V → List V} {tk : TA} (h : tA σ H fun vs H1 => tk σ H1 fun zs H2 => vs.length = n ∧ zs.length = m ∧ ∀ x dx, H2 x = none → H2 dx = none → dx ≠ x → sp (gV (.ref x :: vs) zs) (upd (upd H2 dx (.own x)) x (.ins C dx [])) (fun v H3 => v = .non ∧ Q (.ref x) H3) E) : tMakeK C n m sp gV E tA tk σ H Q := h
end go2

/-! ### keywords and defaults -/
section
variable {K : PySem.W.Frag} {x qual : Str} {st : Stmt} {f : Addr} {fd : FuncData} {ps : List Str}
theorem Fun_kb (F : Fun K x qual st f fd) (n : Nat) (ks : List Str) (g : {α : Type} → List α → List α → List α) (hrel : ∀ {vs zs : List V} {us ws : List Value}, Vals vs us → Vals zs ws → Vals (g vs zs) (g us ws))
    (h : ∀ (kV doc pm : Value) (an : Option Addr) (cdv ct : Value) (us ws : List Value), us.length = n → ws.length = ks.length → bindArgs (PySem.W.fnOf x qual (defArgs st) (defBody st) (defScope st) .none kV doc pm an cdv ct) ⟨us, ks.zip ws⟩ = pure (ps.zip (g us ws))) :
    ∃ g', KBn K fd ps n ks g' (fun vs zs => g vs zs) := by
  obtain ⟨oc, od, kV, doc, pm, an, cdv, ct, osl, rfl, lk, hcd⟩ := F.ex
  exact ⟨fun us ws => g us ws, ⟨fun s us ws _ l1 l2 => .of_eq (h kV doc pm an cdv ct us ws l1 l2), fun r1 r2 => hrel r1 r2⟩⟩
end
section
variable {K : PySem.W.Frag} {x qual : Str} {params : Arguments} {body : List Stmt} {scope : Scope} {dvs : List V} {f : Addr} {fd : FuncData} {ps : List Str}
theorem FunD_all (F : FunD K x qual params body scope dvs [] f fd) (hd : dvs ≠ [])
    (h : ∀ (T : Addr) (kV doc pm : Value) (an : Option Addr) (cdv ct : Value) (us its : List Value), us.length = ps.length → its.length = dvs.length →
      ∃ k, bindArgs (PySem.W.fnOf x qual params body scope (.ref T) kV doc pm an cdv ct) ⟨us, []⟩ = seqItems? (.ref T) >>= k ∧ k (some its.toArray) = pure (ps.zip us)) : Binds K fd ps [] := by
  obtain ⟨ds, h1, h2⟩ := F.binds1 (ps := ps) ps.length dvs.length hd (by omega) fun T kV doc pm an cdv ct us its l1 l2 => by
    obtain ⟨k, e1, e2⟩ := h T kV doc pm an cdv ct us its l1 l2
    refine ⟨k, e1, ?_⟩
    rw [← l2, List.drop_length, List.append_nil]
    exact e2
  rw [List.drop_length] at h1
  cases h1
  exact h2
end
end SL

set_option Elab.async false
set_option linter.all false
set_option maxRecDepth 100000
set_option maxHeartbeats 4000000
namespace SL
open PySem L2 PySem.Spec PyProof.Rows

/-! ### str(own), str(int), str(text) -/
section
variable {X : Cx} {CX : CXT} {k : Nat} {f C : Addr} {fd : FuncData} {ps : List Str} {sp : Sp} {E : XK}
/-- a def called two C units deeper (out of a type's call) -/
theorem run_fn2 {pins : List (Addr × Obj)} {σ : L2.St} {H : Hp} {s : Shared} {Q : VK} {us : List Value} {vs : List V} {dvs : List V} {ds : List Value} (F : FnOk X.prog X.w X.K X.mg X.base CX k f fd ps sp) (hr : Room (k + 2) X.A) (hb : Binds X.K fd ps ds) (hd : Vals dvs ds) (hx : Passes CX X E)
    (I : Inv X pins σ H s) (r : Vals vs us) (h : sp (vs ++ dvs) H Q E) : wpAny (model X.prog X.w) X.A.in1.in1 (call (.ref f) us) (EP X pins σ Q) X.xe s := by
  have r2 : Vals (vs ++ dvs) (us ++ ds) := r.append hd
  have hl : (us ++ ds).length = ps.length := by rw [← r2.length]; exact F.len _ _ _ _ h
  refine wpAny_call (codeAny_mono (F.run X.A.in1.in1 X.stack s H ⟨us, []⟩ (us ++ ds) (vs ++ dvs) Q E hr.in1.in1 I.env0.in1.in1 (hb s us I.kIn hl) r2 h) fun r s' hq => ?_)
  cases r with
  | error e => exact hx pins σ H s e s' I hq
  | ok fl =>
    cases fl with
    | ret u => exact I.after hq
    | next => exact False.elim hq
    | brk => exact False.elim hq
    | cont => exact False.elim hq
def rStrOwn (C : Addr) (sp : Sp) (E : XK) : List V → Hp → VK → Prop := fun xs H Q => ∃ a dx fs, xs = [.ref a] ∧ H a = some (.ins C dx fs) ∧ sp [.ref a] H (fun v H' => ∃ z, v = .str z ∧ Q v H') E
theorem call_strOwn (o : OwnOp X.K C f "__str__") (F : FnOk X.prog X.w X.K X.mg X.base CX k f fd ps sp) (hr : Room (k + 2) X.A) (hb : Binds X.K fd ps []) (hx : Passes CX X E) : CallR X (.type "str") (rStrOwn C sp E) := by
  intro pins s σ H xs us Q I r h
  obtain ⟨a, dx, fs, rfl, ha, h⟩ := h
  obtain ⟨u, rfl, rfl⟩ := vals1 r
  obtain ⟨od, J⟩ := inst_of I ha
  refine PySem.W.kso_call hr.in1.in1.units0 I.kIn J o.at_ o.fn (wpAny_mono (run_fn2 (us := [.ref a]) (vs := [.ref a]) F hr hb .nil hx I (.cons rfl .nil) h) (fun v s' q => ?_) fun _ _ e => e)
  obtain ⟨x, H', I', rx, z, rfl, q⟩ := q
  obtain ⟨t, rfl⟩ := rx
  exact ⟨.str z, H', I', ⟨t, rfl⟩, q⟩
def rStrS : List V → Hp → VK → Prop := fun xs H Q => ∃ a, xs = [.str a] ∧ Q (.str a) H
theorem call_strSX : CallR X (.type "str") rStrS := SkE.call_str_str
theorem op_addSt : OpR X (binaryOp .Add) rAddS := op_add_str
/-! ### comparisons of texts -/
def rLtS : R2 := fun x y H Q => ∃ i j, x = .str i ∧ y = .str j ∧ Q (.bl (decide (i.cps.toList < j.cps.toList))) H
def rLeS : R2 := fun x y H Q => ∃ i j, x = .str i ∧ y = .str j ∧ Q (.bl (!decide (j.cps.toList < i.cps.toList))) H
def rGtS : R2 := fun x y H Q => ∃ i j, x = .str i ∧ y = .str j ∧ Q (.bl (decide (j.cps.toList < i.cps.toList))) H
def rGeS : R2 := fun x y H Q => ∃ i j, x = .str i ∧ y = .str j ∧ Q (.bl (!decide (i.cps.toList < j.cps.toList))) H
theorem op_ltS : OpR X (compareOp .Lt) rLtS := op_lt_str
theorem op_leS : OpR X (compareOp .LtE) rLeS := op_le_str
theorem op_gtS : OpR X (compareOp .Gt) rGtS := op_gt_str
theorem op_geS : OpR X (compareOp .GtE) rGeS := op_ge_str
/-! ### texts made of parts -/
def tJ (ts : List TE) : TE := fun σ H Q => tJs ts Str.empty σ H fun out H1 => Q (.str out) H1
def rJoin (K : PySem.W.Frag) : V → List V → Hp → VK → Prop := fun x xs H Q => ∃ a p, ∃ ys : List Str, x = .str a ∧ xs = [.ref p] ∧ (SqL K H p (ys.map V.str) ∨ SqT K H p (ys.map V.str)) ∧
    (ys.map (·.length)).sum + ys.length * a.length ≤ 16777216 ∧ Q (.str (Txt.join a ys)) H
theorem mt_joinX : MtR X "str.join" (rJoin X.K) := mt_join
/-! ### tuple(..) -/
theorem _root_.L2.Room.units1 {A : Around} (r : L2.Room k A) : A.units + 1 < cLine := by have := r.un; omega
end

/-! ### steps -/
section
variable {K : PySem.W.Frag} {D : Ends} {σ : L2.St} {H : Hp} {Q : VK} {te ta tb tc tv to : TE} {tA : TA} {v x y : V} {i j : Nat} {E : XK}
theorem go_strS {z : Str} (h : Q (.str z) H) : rStrS [.str z] H Q := ⟨z, rfl, h⟩
theorem go_ltS {z z' : Str} (h : Q (.bl (decide (z.cps.toList < z'.cps.toList))) H) : rLtS (.str z) (.str z') H Q := ⟨z, z', rfl, rfl, h⟩
theorem go_leS {z z' : Str} (h : Q (.bl (!decide (z'.cps.toList < z.cps.toList))) H) : rLeS (.str z) (.str z') H Q := ⟨z, z', rfl, rfl, h⟩
theorem go_chain {r r' : R2} (h : ta σ H fun x H1 => tb σ H1 fun y H2 => r x y H2 fun z H3 => ∃ k, z = .bl k ∧ (if k = true then tc σ H3 fun w' H4 => r' y w' H4 Q else Q (.bl false) H3)) : tChain r r' ta tb tc σ H Q := h
theorem go_j {ts : List TE} (h : tJs ts Str.empty σ H fun out H1 => Q (.str out) H1) : tJ ts σ H Q := h
theorem go_js0 {acc : Str} {R : Str → Hp → Prop} (h : R acc H) : tJs [] acc σ H R := h
theorem go_js {ts : List TE} {acc : Str} {R : Str → Hp → Prop} (h : te σ H fun x H1 => ∃ y : Str, x = .str y ∧ (acc ++ y).length ≤ sizeLine ∧ tJs ts (acc ++ y) σ H1 R) : tJs (te :: ts) acc σ H R := h
theorem go_fmt (h : te σ H fun x H1 => (∃ y : Str, x = .str y ∧ y.length ≤ sizeLine ∧ Q (.str y) H1) ∨ ∃ i : Int, x = .int i ∧ i.natAbs.log2 < 1920 ∧ Q (.str (toString i)) H1) : tFmt te σ H Q := h
theorem go_m1 {r : V → List V → Hp → VK → Prop} (h : to σ H fun x H1 => (∃ a, x = .str a) ∧ te σ H1 fun y H2 => r x [y] H2 Q) : tM1 r to te σ H Q := h
theorem go_iStr {R : It → Hp → Prop} (h : te σ H fun v H1 => ∃ x, v = .str x ∧ R (Its x) H1) : iStr te σ H R := h
theorem go_iZip {R : It → Hp → Prop} (h : tA σ H fun vs H1 => ∃ a b xs ys, vs = [.ref a, .ref b] ∧ SqL K H1 a xs ∧ SqL K H1 b ys ∧ R (Itz K a b) H1) : iZip K tA σ H R := h
theorem go_iKeys {R : It → Hp → Prop} (h : te σ H fun x H1 => ∃ d o, x = .ref d ∧ ((∃ kvs, H1 d = some (.frz o (.dK kvs)) ∧ R (Itk d o kvs) H1) ∨ ∃ kvs, H1 d = some (.frz o (.dT kvs)) ∧ R (Itkt d o kvs) H1)) : iKeys te σ H R := h
theorem go_dget (h : ta σ H fun x H1 => tb σ H1 fun y H2 => ∃ a v, x = .ref a ∧ DGet H2 a y (some v) ∧ Q v H2) : tDGet ta tb σ H Q := h
theorem go_dc {wi : TI} {g : TG} {tt : TT} {tk : TE} {vs : List Nat} (h : wi σ H fun J H1 => ∀ D, H1 D = none → ∃ W : Nat → Nat → Hp → Prop, (∃ m, W 0 m (upd H1 D (.dK []))) ∧ ∀ i m H, W i m H →
  (J.stop i H ∧ Q (.ref D) H) ∨ (J.go i H ∧ ∃ Nx : Hp → Prop, (∀ H', Nx H' → ∃ m', m' < m ∧ W (i + 1) m' H') ∧ ∀ x H', J.yld i H x H' → g x (wipe σ vs) H' fun σ2 H2 => wipe σ2 vs = wipe σ vs ∧ tt σ2 H2 fun b H3 =>
    if b = true then tk σ2 H3 fun y H4 => tv σ2 H4 fun z H5 => ∃ kvs k, y = kV k ∧ H5 D = some (.dK kvs) ∧ kvs.length < sizeLine ∧ Nx (upd H5 D (.dK (putK kvs k z))) else Nx H3)) : tDc wi g tt tk tv vs σ H Q := h
end

/-! ### comprehensions over heaps that only grow -/
section
variable {J : It} {n : Nat} {G : Hp → Prop} {Y : Nat → Hp → V → Hp → Prop} {g : TG} {tt : TT} {te tk tv : TE} {vs : List Nat} {σ : L2.St} {H1 : Hp} {Qd : Addr → Hp → Prop}
end
end SL

set_option Elab.async false
set_option linter.all false
set_option maxRecDepth 100000
set_option maxHeartbeats 4000000
/-! ### data in the layer's heap -/
namespace DY
abbrev FnOk := @SL.FnOk
abbrev Room := @SL.Room
abbrev run_fn := @SL.run_fn
abbrev run_fnN := @SL.run_fnN
abbrev run_make := @SL.run_make
abbrev run_makeN := @SL.run_makeN
abbrev pe_call := @SL.pe_call
abbrev pe_make := @SL.pe_make
abbrev pe_makeK0 := @SL.pe_makeK0
open PySem L2
def S (l : List Nat) : Str := ⟨l.toArray⟩
theorem S_inj {a b : List Nat} (h : S a = S b) : a = b := by
  have : a.toArray = b.toArray := congrArg Str.cps h
  exact List.toArray_inj this
theorem S_cps (x : Str) : S x.cps.toList = x := by cases x; rfl
def kK : Ky → Key
  | .inl i => .inl i
  | .inr l => .inr (S l)
theorem kK_inj {a b : Ky} (h : kK a = kK b) : a = b := by
  cases a <;> cases b <;> simp [kK] at h
  · rw [h]
  · rw [S_inj h]
def BT.nm : BT → String
  | .int => "int" | .bool => "bool" | .str => "str" | .tuple => "tuple" | .list => "list" | .dict => "dict" | .set => "set" | .xv => "ValueError" | .xl => "LookupError" | .xa => "ArithmeticError"
/-- the classes: where they stand, their attributes in order -/
structure CT where
  ad : Nat → Addr
  nms : Nat → List Str
  cs : List Nat
  xs : List Nat := []
variable (K : PySem.W.Frag) (A : CT)
mutual
inductive Rep (G : Hp) : V → D → Prop
  | non : Rep G .non .non
  | bl (b : Bool) : Rep G (.bl b) (.bl b)
  | int (i : Int) : Rep G (.int i) (.int i)
  | str (l : List Nat) : Rep G (.str (S l)) (.str l)
  | ty (t : BT) : Rep G (.ty t.nm) (.ty t)
  | cls (c : Nat) : c ∈ A.cs → Rep G (.ref (A.ad c)) (.cls c)
  | any (v : V) : Rep G v .any
  | lst {p : Addr} {vs : List V} {ds : List D} : G p = some (.lst vs) → Reps G vs ds → Rep G (.ref p) (.lst ds)
  | fls {p : Addr} {vs : List V} {ds : List D} : SqL K G p vs → Reps G vs ds → Rep G (.ref p) (.fls ds)
  | tup {p : Addr} {o : Obj} {vs : List V} {ds : List D} : o.dict = none → G p = some (.frz o (.tup vs)) → Reps G vs ds → Rep G (.ref p) (.tup ds)
  | emp {p : Addr} {o : Obj} {n : Nat} : K.lookup p = some o → o.cls = .type "tuple" → o.dict = none → o.data = .seq #[] n → Rep G (.ref p) (.tup [])
  | kt {p : Addr} {vs : List V} {ds : List D} : G p = some (.tup vs) → Reps G vs ds → Rep G (.ref p) (.kt ds)
  | dic {p : Addr} {kvs : List (Key × V)} {ds : List (Ky × D)} : G p = some (.dK kvs) → RepK G kvs ds → Rep G (.ref p) (.dic ds)
  | dct {p : Addr} {kvs : List (List Key × V)} {ds : List (List Ky × D)} : G p = some (.dT kvs) → RepT G kvs ds → Rep G (.ref p) (.dct ds)
  | ins {p dx : Addr} {c : Nat} {vs : List V} {ds : List D} : G p = some (.ins (A.ad c) dx ((A.nms c).zip vs)) → vs.length ≤ (A.nms c).length → c ∈ A.cs → Reps G vs ds → Rep G (.ref p) (.ins c ds)
inductive Reps (G : Hp) : List V → List D → Prop
  | nil : Reps G [] []
  | cons {v : V} {d : D} {vs : List V} {ds : List D} : Rep G v d → Reps G vs ds → Reps G (v :: vs) (d :: ds)
inductive RepK (G : Hp) : List (Key × V) → List (Ky × D) → Prop
  | nil : RepK G [] []
  | cons {k : Ky} {v : V} {d : D} {vs : List (Key × V)} {ds : List (Ky × D)} : Rep G v d → RepK G vs ds → RepK G ((kK k, v) :: vs) ((k, d) :: ds)
inductive RepT (G : Hp) : List (List Key × V) → List (List Ky × D) → Prop
  | nil : RepT G [] []
  | cons {k : List Ky} {v : V} {d : D} {vs : List (List Key × V)} {ds : List (List Ky × D)} : Rep G v d → RepT G vs ds → RepT G ((k.map kK, v) :: vs) ((k, d) :: ds)
end
variable {K : PySem.W.Frag} {A : CT} {G G' G1 G2 H H' H1 H2 : Hp}
theorem sqL_same {p : Addr} {xs : List V} (e : L2.Same G G') (h : SqL K G p xs) : SqL K G' p xs := by
  rcases h with (h | ⟨o, h⟩) | h
  · exact .inl (.inl (e _ _ h))
  · exact .inl (.inr ⟨o, e _ _ h⟩)
  · exact .inr h
mutual
theorem Rep.mono (e : L2.Same G G') : ∀ {v : V} {d : D}, Rep K A G v d → Rep K A G' v d
  | _, _, .non => .non
  | _, _, .bl b => .bl b
  | _, _, .int i => .int i
  | _, _, .str l => .str l
  | _, _, .ty t => .ty t
  | _, _, .cls c h => .cls c h
  | _, _, .any v => .any v
  | _, _, .lst h r => .lst (e _ _ h) (Reps.mono e r)
  | _, _, .fls h r => .fls (sqL_same e h) (Reps.mono e r)
  | _, _, .tup n h r => .tup n (e _ _ h) (Reps.mono e r)
  | _, _, .emp a b c d => .emp a b c d
  | _, _, .kt h r => .kt (e _ _ h) (Reps.mono e r)
  | _, _, .dic h r => .dic (e _ _ h) (RepK.mono e r)
  | _, _, .dct h r => .dct (e _ _ h) (RepT.mono e r)
  | _, _, .ins h l c r => .ins (e _ _ h) l c (Reps.mono e r)
theorem Reps.mono (e : L2.Same G G') : ∀ {vs : List V} {ds : List D}, Reps K A G vs ds → Reps K A G' vs ds
  | _, _, .nil => .nil
  | _, _, .cons h r => .cons (Rep.mono e h) (Reps.mono e r)
theorem RepK.mono (e : L2.Same G G') : ∀ {vs : List (Key × V)} {ds : List (Ky × D)}, RepK K A G vs ds → RepK K A G' vs ds
  | _, _, .nil => .nil
  | _, _, .cons h r => .cons (Rep.mono e h) (RepK.mono e r)
theorem RepT.mono (e : L2.Same G G') : ∀ {vs : List (List Key × V)} {ds : List (List Ky × D)}, RepT K A G vs ds → RepT K A G' vs ds
  | _, _, .nil => .nil
  | _, _, .cons h r => .cons (Rep.mono e h) (RepT.mono e r)
end
theorem Reps.len {vs : List V} {ds : List D} (h : Reps K A G vs ds) : vs.length = ds.length := by
  induction vs generalizing ds with
  | nil => cases h; rfl
  | cons v vs ih => cases h with | cons _ r => rw [List.length_cons, List.length_cons, ih r]
theorem Reps.inv1 {vs : List V} {d : D} (h : Reps K A G vs [d]) : ∃ v, vs = [v] ∧ Rep K A G v d := by
  cases h with | cons a r => cases r; exact ⟨_, rfl, a⟩
theorem Reps.inv2 {vs : List V} {d e : D} (h : Reps K A G vs [d, e]) : ∃ v w, vs = [v, w] ∧ Rep K A G v d ∧ Rep K A G w e := by
  cases h with | cons a r => cases r with | cons b r => cases r; exact ⟨_, _, rfl, a, b⟩
theorem Reps.append {vs ws : List V} {ds es : List D} (h : Reps K A G vs ds) (h' : Reps K A G ws es) : Reps K A G (vs ++ ws) (ds ++ es) := by
  induction vs generalizing ds with
  | nil => cases h; exact h'
  | cons v vs ih => cases h with | cons a r => exact .cons a (ih r)
theorem Reps.get {vs : List V} {ds : List D} {i : Nat} {v : V} (h : Reps K A G vs ds) (e : vs[i]? = some v) : ∃ d, ds[i]? = some d ∧ Rep K A G v d := by
  induction vs generalizing ds i with
  | nil => simp at e
  | cons w vs ih =>
    cases h with
    | cons a r =>
      cases i with
      | zero => simp at e; subst e; exact ⟨_, rfl, a⟩
      | succ i => exact ih (i := i) r (by simpa using e)
theorem Reps.get' {vs : List V} {ds : List D} {i : Nat} {d : D} (h : Reps K A G vs ds) (e : ds[i]? = some d) : ∃ v, vs[i]? = some v ∧ Rep K A G v d := by
  induction vs generalizing ds i with
  | nil => cases h; simp at e
  | cons w vs ih =>
    cases h with
    | cons a r =>
      cases i with
      | zero => simp at e; subst e; exact ⟨_, rfl, a⟩
      | succ i => exact ih (i := i) r (by simpa using e)
theorem Reps.take {vs : List V} {ds : List D} (h : Reps K A G vs ds) (n : Nat) : Reps K A G (vs.take n) (ds.take n) := by
  induction vs generalizing ds n with
  | nil => cases h; simp; exact .nil
  | cons w vs ih =>
    cases h with
    | cons a r => cases n with
      | zero => exact .nil
      | succ n => exact .cons a (ih r n)
theorem Reps.drop {vs : List V} {ds : List D} (h : Reps K A G vs ds) (n : Nat) : Reps K A G (vs.drop n) (ds.drop n) := by
  induction vs generalizing ds n with
  | nil => cases h; simp; exact .nil
  | cons w vs ih =>
    cases h with
    | cons a r => cases n with
      | zero => exact .cons a r
      | succ n => exact ih r n
theorem Reps.set {vs : List V} {ds : List D} {v : V} {d : D} (h : Reps K A G vs ds) (hv : Rep K A G v d) (n : Nat) : Reps K A G (vs.set n v) (ds.set n d) := by
  induction vs generalizing ds n with
  | nil => cases h; simp; exact .nil
  | cons w vs ih =>
    cases h with
    | cons a r => cases n with
      | zero => exact .cons hv r
      | succ n => exact .cons a (ih r n)
/-- dicts may be walked while they are known -/
def isD : HO → Prop
  | .dK _ => True
  | .dT _ => True
  | _ => False
/-- the tables of code objects, and the names of what they tell -/
class Tb where
  T : List (Addr × Str)
  base : Hp := fun _ => none
variable [Tb]
structure Sub (G H : Hp) : Prop where
  at_ : ∀ p o, G p = some o → H p = some o ∨ (isD o ∧ ∃ ob, H p = some (.frz ob o))
  tb : LamX.Tabs Tb.T H
  nt : ∀ p ps, G p ≠ some (.tbl ps)
  bs : L2.Same Tb.base G
instance : CoeFun (Sub G H) fun _ => ∀ p o, G p = some o → H p = some o ∨ (isD o ∧ ∃ ob, H p = some (.frz ob o)) := ⟨Sub.at_⟩
/-- the heap without its tables -/
def noTb (H : Hp) : Hp := fun p => match H p with
  | some (.tbl _) => none
  | o => o
theorem noTb_ok {p : Addr} {o : HO} (h : H p = some o) (n : ∀ ps, o ≠ .tbl ps) : noTb H p = some o := by
  unfold noTb; rw [h]
  split
  · rename_i ps e; exact absurd (Option.some.inj e) (n ps)
  · rfl
theorem noTb_at {p : Addr} {o : HO} (h : noTb H p = some o) : H p = some o ∧ ∀ ps, o ≠ .tbl ps := by
  unfold noTb at h
  split at h
  · cases h
  · rename_i n; exact ⟨h, fun ps e => n ps (by rw [h, e])⟩
theorem Sub.start {H : Hp} (t : LamX.Tabs Tb.T H) (b : ∀ p, Tb.base p = none) : Sub (noTb H) H := ⟨fun _ _ h => .inl (noTb_at h).1, t, fun p ps h => (noTb_at h).2 ps rfl, fun p o h => by rw [b] at h; cases h⟩
/-- no table of code objects, none of them -/
def nT : HO → Prop
  | .tbl _ => False
  | .ext _ => False
  | _ => True
theorem nT.up {p : Addr} {o u : HO} {T : List (Addr × Str)} (h : H p = some o) (n : nT o) (t : LamX.Tabs T H) : LamX.Tabs T (upd H p u) := fun x hx => by
  obtain ⟨ps, h1, h2, h3⟩ := t x hx
  have ne : ∀ {b : Addr} {v : HO}, H b = some v → ¬ nT v → b ≠ p := fun e nv z => by
    subst z; rw [h] at e; cases e; exact nv n
  refine ⟨ps, by rw [upd_ne (ne h1 fun z => z)]; exact h1, h2, fun pos cv hc => ?_⟩
  obtain ⟨c, e1, e2⟩ := h3 pos cv hc
  exact ⟨c, e1, by rw [upd_ne (ne e2 fun z => z)]; exact e2⟩
theorem nT.new {p : Addr} {u : HO} {T : List (Addr × Str)} (h : H p = none) (t : LamX.Tabs T H) : LamX.Tabs T (upd H p u) := t.ext fun b o e => by rw [upd_ne (ne_of_none e h)]; exact e
theorem Sub.ex {p : Addr} {o : HO} (s : Sub G H) (h : G p = some o) : ∃ u, H p = some u := by
  rcases s p o h with h | ⟨_, ob, h⟩
  · exact ⟨_, h⟩
  · exact ⟨_, h⟩
theorem Sub.sqL {p : Addr} {xs : List V} (s : Sub G H) (h : SqL K G p xs) : SqL K H p xs := by
  rcases h with (h | ⟨o, h⟩) | h
  · rcases s _ _ h with h | ⟨z, _⟩
    · exact .inl (.inl h)
    · exact z.elim
  · rcases s _ _ h with h | ⟨z, _⟩
    · exact .inl (.inr ⟨o, h⟩)
    · exact z.elim
  · exact .inr h
theorem Sub.ins {p C dx : Addr} {fs : List (Str × V)} (s : Sub G H) (h : G p = some (.ins C dx fs)) : H p = some (.ins C dx fs) := by
  rcases s _ _ h with h | ⟨z, _⟩
  · exact h
  · exact z.elim
theorem Sub.lst {p : Addr} {vs : List V} (s : Sub G H) (h : G p = some (.lst vs)) : H p = some (.lst vs) := by
  rcases s _ _ h with h | ⟨z, _⟩
  · exact h
  · exact z.elim
theorem Sub.tup {p : Addr} {vs : List V} (s : Sub G H) (h : G p = some (.tup vs)) : H p = some (.tup vs) := by
  rcases s _ _ h with h | ⟨z, _⟩
  · exact h
  · exact z.elim
theorem Sub.frt {p : Addr} {o : Obj} {vs : List V} (s : Sub G H) (h : G p = some (.frz o (.tup vs))) : H p = some (.frz o (.tup vs)) := by
  rcases s _ _ h with h | ⟨z, _⟩
  · exact h
  · exact z.elim
theorem sqT_emp {p : Addr} {o : Obj} {n : Nat} (a : K.lookup p = some o) (b : o.cls = .type "tuple") (d : o.data = .seq #[] n) : SqT K H p [] := .inr ⟨o, #[], n, a, b, d, Nat.zero_le _, .nil⟩
theorem Rep.sqT {v : V} {ds : List D} (h : Rep K A G v (.tup ds)) (s : Sub G H) : ∃ p vs, v = .ref p ∧ SqT K H p vs ∧ Reps K A G vs ds := by
  cases h with
  | tup n h r => exact ⟨_, _, rfl, .inl (.inr ⟨_, s.frt h⟩), r⟩
  | emp a b c d => exact ⟨_, _, rfl, sqT_emp a b d, .nil⟩
theorem Rep.sqK {v : V} {ds : List D} (h : Rep K A G v (.kt ds)) (s : Sub G H) : ∃ p vs, v = .ref p ∧ H p = some (.tup vs) ∧ Reps K A G vs ds := by
  cases h with
  | kt h r => exact ⟨_, _, rfl, s.tup h, r⟩
theorem Sub.dK {p : Addr} {kvs : List (Key × V)} (s : Sub G H) (h : G p = some (.dK kvs)) : Rd H p (.dK kvs) := by
  rcases s _ _ h with h | ⟨_, ob, h⟩
  · exact .inl h
  · exact .inr ⟨ob, h⟩
theorem Sub.dT {p : Addr} {kvs : List (List Key × V)} (s : Sub G H) (h : G p = some (.dT kvs)) : Rd H p (.dT kvs) := by
  rcases s _ _ h with h | ⟨_, ob, h⟩
  · exact .inl h
  · exact .inr ⟨ob, h⟩
/-- an object of one's own -/
def Has (K : PySem.W.Frag) (A : CT) (G H : Hp) (p : Addr) : D → Prop
  | .lst ds => ∃ vs, H p = some (.lst vs) ∧ Reps K A G vs ds
  | .dic ds => ∃ kvs, H p = some (.dK kvs) ∧ RepK K A G kvs ds
  | .dct ds => ∃ kvs, H p = some (.dT kvs) ∧ RepT K A G kvs ds
  | .ins c ds => ∃ dx vs, H p = some (.ins (A.ad c) dx ((A.nms c).zip vs)) ∧ vs.length ≤ (A.nms c).length ∧ c ∈ A.cs ∧ Reps K A G vs ds
  | _ => False
theorem Has.nt {p : Addr} {d : D} (h : Has K A G H p d) : ∃ o, H p = some o ∧ nT o := by
  cases d with
  | lst ds => obtain ⟨vs, h, _⟩ := h; exact ⟨_, h, trivial⟩
  | dic ds => obtain ⟨vs, h, _⟩ := h; exact ⟨_, h, trivial⟩
  | dct ds => obtain ⟨vs, h, _⟩ := h; exact ⟨_, h, trivial⟩
  | ins c ds => obtain ⟨_, vs, h, _⟩ := h; exact ⟨_, h, trivial⟩
  | _ => exact h.elim
theorem Sub.nt_new {p : Addr} {o : HO} (s : Sub G H) (h : nT o) : ∀ q ps, upd G p o q ≠ some (.tbl ps) := fun q ps e => by
  by_cases z : q = p
  · rw [z, upd_same] at e; cases e; exact h
  · rw [upd_ne z] at e; exact s.nt q ps e
theorem Sub.nt_upd {p : Addr} {o : HO} (s : Sub G H1) (h : ∃ o, H p = some o ∧ nT o) (e : H p = some o) : ∀ q ps, upd G p o q ≠ some (.tbl ps) := by
  obtain ⟨o', h1, h2⟩ := h
  rw [e] at h1; cases h1
  exact s.nt_new h2
theorem Has.ex {p : Addr} {d : D} (h : Has K A G H p d) : ∃ o, H p = some o := by
  cases d with
  | lst ds => obtain ⟨vs, h, _⟩ := h; exact ⟨_, h⟩
  | dic ds => obtain ⟨vs, h, _⟩ := h; exact ⟨_, h⟩
  | dct ds => obtain ⟨vs, h, _⟩ := h; exact ⟨_, h⟩
  | ins c ds => obtain ⟨_, vs, h, _⟩ := h; exact ⟨_, h⟩
  | _ => exact h.elim
theorem Has.mono {p : Addr} {d : D} (h : Has K A G H p d) (e : L2.Same G G') (k : ∀ o, H p = some o → (∀ ps, o ≠ .tbl ps) → H' p = some o) : Has K A G' H' p d := by
  cases d with
  | lst ds => obtain ⟨vs, h, r⟩ := h; exact ⟨vs, k _ h (fun _ z => nomatch z), r.mono e⟩
  | dic ds => obtain ⟨vs, h, r⟩ := h; exact ⟨vs, k _ h (fun _ z => nomatch z), r.mono e⟩
  | dct ds => obtain ⟨vs, h, r⟩ := h; exact ⟨vs, k _ h (fun _ z => nomatch z), r.mono e⟩
  | ins c ds => obtain ⟨dx, vs, h, l, c, r⟩ := h; exact ⟨dx, vs, k _ h (fun _ z => nomatch z), l, c, r.mono e⟩
  | _ => exact h.elim
theorem Has.frz {p : Addr} {d : D} (h : Has K A G H p d) (n : G p = none) : ∃ o, H p = some o ∧ Rep K A (upd G p o) (.ref p) d := by
  have e : ∀ o, L2.Same G (upd G p o) := fun o => SL.Same.new n
  cases d with
  | lst ds => obtain ⟨vs, h, r⟩ := h; exact ⟨_, h, .lst upd_same (r.mono (e _))⟩
  | dic ds => obtain ⟨vs, h, r⟩ := h; exact ⟨_, h, .dic upd_same (r.mono (e _))⟩
  | dct ds => obtain ⟨vs, h, r⟩ := h; exact ⟨_, h, .dct upd_same (r.mono (e _))⟩
  | ins c ds => obtain ⟨dx, vs, h, l, c, r⟩ := h; exact ⟨_, h, .ins upd_same l c (r.mono (e _))⟩
  | _ => exact h.elim
/-! ### slots -/
def SlotOk (K : PySem.W.Frag) (A : CT) (G H : Hp) (ov : Option V) : Slot → Prop
  | .un => True
  | .sh d => ∃ v, ov = some v ∧ Rep K A G v d
  | .ow d => ∃ p, ov = some (.ref p) ∧ G p = none ∧ Has K A G H p d
def Own (σ : L2.St) (ρ : Env) (i : Nat) (p : Addr) : Prop := (∃ d, ρ[i]? = some (.ow d)) ∧ σ[i]? = some (some (.ref p))
def OwnS (σ : L2.St) (ρ : Env) (p : Addr) : Prop := ∃ i, Own σ ρ i p
structure St (K : PySem.W.Frag) (A : CT) (σ : L2.St) (G H : Hp) (ρ : Env) : Prop where
  sub : Sub G H
  len : σ.length = ρ.length
  slot : ∀ i s, ρ[i]? = some s → SlotOk K A G H (σ.getD i none) s
  dist : ∀ i j p, Own σ ρ i p → Own σ ρ j p → i = j
/-- what may have changed -/
structure Ext (O : Addr → Prop) (G H G' H' : Hp) : Prop where
  gs : L2.Same G G'
  fr : ∀ p, G' p ≠ none → G p ≠ none ∨ H p = none ∨ O p
  hs : ∀ p o, H p = some o → ¬ O p → (∀ ps, o ≠ .tbl ps) → H' p = some o
  there : ∀ p, H p ≠ none → H' p ≠ none
theorem Ext.refl (O : Addr → Prop) (G H : Hp) : Ext O G H G H := ⟨fun _ _ h => h, fun _ h => .inl h, fun _ _ h _ _ => h, fun _ h => h⟩
theorem Ext.weak {O O' : Addr → Prop} (e : Ext O G H G' H') (h : ∀ p, O p → O' p) : Ext O' G H G' H' :=
  ⟨e.gs, fun p z => (e.fr p z).imp id fun z => z.imp id (h p), fun p o a n q => e.hs p o a (fun z => n (h p z)) q, e.there⟩
theorem Ext.trans {O O' : Addr → Prop} (a : Ext O G H G1 H1) (b : Ext O' G1 H1 G2 H2) (h : ∀ p, O' p → O p ∨ H p = none) : Ext O G H G2 H2 where
  gs := fun p o z => b.gs p o (a.gs p o z)
  fr := fun p z => by
    rcases b.fr p z with z | z | z
    · exact a.fr p z
    · refine .inr (.inl ?_)
      cases q : H p with
      | none => rfl
      | some o => exact absurd z (a.there p (by rw [q]; exact fun x => nomatch x))
    · exact .inr ((h p z).elim .inr .inl)
  hs := fun p o z n nt => by
    refine b.hs p o (a.hs p o z n nt) (fun q => ?_) nt
    rcases h p q with q | q
    · exact n q
    · rw [z] at q; cases q
  there := fun p z => b.there p (a.there p z)
/-- behind an evaluation -/
structure Nx (K : PySem.W.Frag) (A : CT) (σ : L2.St) (G H : Hp) (ρ : Env) (G' H' : Hp) (ρ' : Env) : Prop where
  ext : Ext (OwnS σ ρ) G H G' H'
  st : St K A σ G' H' ρ'
  own : ∀ i p, Own σ ρ' i p → Own σ ρ i p
section
variable {σ : L2.St} {ρ ρ1 ρ2 ρ' : Env}
theorem Nx.refl (s : St K A σ G H ρ) : Nx K A σ G H ρ G H ρ := ⟨Ext.refl _ _ _, s, fun _ _ h => h⟩
theorem Nx.trans (a : Nx K A σ G H ρ G1 H1 ρ1) (b : Nx K A σ G1 H1 ρ1 G2 H2 ρ2) : Nx K A σ G H ρ G2 H2 ρ2 :=
  ⟨a.ext.trans b.ext fun p ⟨i, z⟩ => .inl ⟨i, a.own i p z⟩, b.st, fun i p z => a.own i p (b.own i p z)⟩
theorem Nx.gs (a : Nx K A σ G H ρ G1 H1 ρ1) : L2.Same G G1 := a.ext.gs
theorem Own.has (s : St K A σ G H ρ) {i : Nat} {p : Addr} (h : Own σ ρ i p) : G p = none ∧ ∃ d, ρ[i]? = some (.ow d) ∧ Has K A G H p d := by
  obtain ⟨⟨d, h1⟩, h2⟩ := h
  obtain ⟨q, e, n, z⟩ := s.slot i _ h1
  rw [List.getD_eq_getElem?_getD, h2] at e
  cases e
  exact ⟨n, d, h1, z⟩
theorem OwnS.there (s : St K A σ G H ρ) {p : Addr} (h : OwnS σ ρ p) : H p ≠ none := by
  obtain ⟨i, h⟩ := h
  obtain ⟨_, d, _, z⟩ := h.has s
  obtain ⟨o, e⟩ := z.ex
  rw [e]; exact fun x => nomatch x
/-- the heap changes but not at our own objects -/
structure Nx0 (G H G' H' : Hp) : Prop where
  ext : Ext (fun _ => False) G H G' H'
  sub : Sub G' H'
theorem Nx0.refl (s : Sub G H) : Nx0 G H G H := ⟨Ext.refl _ _ _, s⟩
theorem Nx0.trans (a : Nx0 G H G1 H1) (b : Nx0 G1 H1 G2 H2) : Nx0 G H G2 H2 := ⟨a.ext.trans b.ext fun _ h => h.elim, b.sub⟩
theorem St.nx0 (s : St K A σ G H ρ) (n : Nx0 G H G' H') : Nx K A σ G H ρ G' H' ρ := by
  refine ⟨n.ext.weak fun _ h => h.elim, ⟨n.sub, s.len, fun i z hz => ?_, s.dist⟩, fun _ _ h => h⟩
  have q := s.slot i z hz
  cases z with
  | un => trivial
  | sh d => obtain ⟨v, e, r⟩ := q; exact ⟨v, e, r.mono n.ext.gs⟩
  | ow d =>
    obtain ⟨p, e, g, h⟩ := q
    refine ⟨p, e, ?_, h.mono n.ext.gs fun o ho nt => n.ext.hs p o ho id nt⟩
    cases q2 : G' p with
    | none => rfl
    | some o =>
      rcases n.ext.fr p (by rw [q2]; exact fun x => nomatch x) with z | z | z
      · exact absurd g z
      · obtain ⟨o, e⟩ := h.ex; rw [z] at e; cases e
      · exact z.elim
/-- the value of a result: new and nobody's, or a value that stays -/
def RepR (K : PySem.W.Frag) (A : CT) (O : Addr → Prop) (H G' H' : Hp) (v : V) (r : Rv) : Prop :=
  if r.2 = true then ∃ p, v = .ref p ∧ G' p = none ∧ Has K A G' H' p r.1 ∧ ¬ O p ∧ H p = none else Rep K A G' v r.1
theorem RepR.of {O : Addr → Prop} {v : V} {d : D} (h : Rep K A G' v d) : RepR K A O H G' H' v (d, false) := h
theorem RepR.new {O : Addr → Prop} {p : Addr} {d : D} (h1 : G' p = none) (h2 : Has K A G' H' p d) (h3 : ¬ O p) (h4 : H p = none) : RepR K A O H G' H' (.ref p) (d, true) := ⟨p, rfl, h1, h2, h3, h4⟩
/-- an own object is given up -/
theorem St.freeze {p : Addr} {d : D} (s : St K A σ G H ρ) (n : G p = none) (h : Has K A G H p d) (no : ¬ OwnS σ ρ p) : ∃ o, H p = some o ∧ St K A σ (upd G p o) H ρ ∧ Rep K A (upd G p o) (.ref p) d ∧ L2.Same G (upd G p o) := by
  obtain ⟨o, ho, r⟩ := h.frz n
  have e : L2.Same G (upd G p o) := SL.Same.new n
  refine ⟨o, ho, ⟨⟨fun q u hq => ?_, s.sub.tb, s.sub.nt_upd h.nt ho, s.sub.bs.trans e⟩, s.len, fun i z hz => ?_, s.dist⟩, r, e⟩
  · by_cases z : q = p
    · subst z; rw [upd_same] at hq; cases hq; exact .inl ho
    · rw [upd_ne z] at hq; exact s.sub q u hq
  · have q := s.slot i z hz
    cases z with
    | un => trivial
    | sh d => obtain ⟨v, e1, r1⟩ := q; exact ⟨v, e1, r1.mono e⟩
    | ow d' =>
      obtain ⟨p', e1, g, h1⟩ := q
      have hne : p' ≠ p := fun z => by
        subst z
        refine no ⟨i, ⟨d', hz⟩, ?_⟩
        rw [List.getD_eq_getElem?_getD] at e1
        cases q : σ[i]? with
        | none => rw [q] at e1; cases e1
        | some x => rw [q] at e1; exact congrArg some e1
      exact ⟨p', e1, by rw [upd_ne hne]; exact g, h1.mono e fun _ z _ => z⟩
theorem Nx.frz {v : V} {r : Rv} (n : Nx K A σ G H ρ G' H' ρ') (h : RepR K A (OwnS σ ρ') H G' H' v r) : ∃ G2, Nx K A σ G H ρ G2 H' ρ' ∧ Rep K A G2 v r.1 ∧ L2.Same G' G2 := by
  unfold RepR at h
  split at h
  · obtain ⟨p, rfl, h1, h2, h3, h4⟩ := h
    obtain ⟨o, ho, s, rr, e⟩ := n.st.freeze h1 h2 h3
    refine ⟨_, ⟨⟨n.ext.gs.trans e, fun q hq => ?_, n.ext.hs, n.ext.there⟩, s, n.own⟩, rr, e⟩
    by_cases z : q = p
    · subst z; exact .inr (.inl h4)
    · rw [upd_ne z] at hq; exact n.ext.fr q hq
  · exact ⟨G', n, h, fun _ _ z => z⟩
end
/-! ### readings of mirrors -/
section
variable (K : PySem.W.Frag) (A : CT)
def liftE (m : Ev) : TE := fun σ H Q => ∃ G ρ r ρ', St K A σ G H ρ ∧ m ρ = .ok (r, ρ') ∧ ∀ v G' H', Nx K A σ G H ρ G' H' ρ' → RepR K A (OwnS σ ρ') H G' H' v r → Q v H'
def liftT (m : Ev) : TT := fun σ H Q => ∃ G ρ b ρ', St K A σ G H ρ ∧ val m ρ = .ok (.bl b, ρ') ∧ ∀ G' H', Nx K A σ G H ρ G' H' ρ' → Q b H'
def liftA (ms : List Ev) : TA := fun σ H Q => ∃ G ρ ds ρ', St K A σ G H ρ ∧ evs ms ρ = .ok (ds, ρ') ∧ ∀ vs G' H', Nx K A σ G H ρ G' H' ρ' → Reps K A G' vs ds → Q vs H'
end
variable {Q : VK}
theorem use_val {σ : L2.St} {ρ ρ' : Env} {m : Ev} {d : D} (s : St K A σ G H ρ) (e : val m ρ = .ok (d, ρ')) (k : ∀ v G' H', Nx K A σ G H ρ G' H' ρ' → Rep K A G' v d → Q v H') : liftE K A m σ H Q := by
  obtain ⟨⟨r, ρ1⟩, e1, e2⟩ := bind_ok e
  cases e2
  refine ⟨G, ρ, r, _, s, e1, fun v G' H' n h => ?_⟩
  obtain ⟨G2, n2, h2, _⟩ := n.frz h
  exact k v G2 H' n2 h2
abbrev PD (A : CT) (X : Cx) (e : Expr) (m : Ev) : Prop := PE X e (liftE X.K A m)
abbrev PDT (A : CT) (X : Cx) (e : Expr) (m : Ev) : Prop := PT X e (liftT X.K A m)
abbrev PDA (A : CT) (X : Cx) (es : List Expr) (ms : List Ev) : Prop := PA X es (liftA X.K A ms)
theorem PE.imp {X : Cx} {e : Expr} {t t' : TE} (h : PE X e t) (k : ∀ σ H Q, t' σ H Q → t σ H Q) : PE X e t' := ⟨fun pins s σ H Q I q => h.run pins s σ H Q I (k σ H Q q)⟩
theorem PT.imp {X : Cx} {e : Expr} {t t' : TT} (h : PT X e t) (k : ∀ σ H Q, t' σ H Q → t σ H Q) : PT X e t' := ⟨fun pins s σ H Q I q => h.run pins s σ H Q I (k σ H Q q)⟩
theorem PA.imp {X : Cx} {e : List Expr} {t t' : TA} (h : PA X e t) (k : ∀ σ H Q, t' σ H Q → t σ H Q) : PA X e t' := ⟨fun pos pins s σ H Q I q => h.run pos pins s σ H Q I (k σ H Q q)⟩
theorem PS.imp {X : Cx} {e : Stmt} {t t' : TS} (h : PS X e t) (k : ∀ D σ H, t' D σ H → t D σ H) : PS X e t' := ⟨fun pins s σ H D I q => h.run pins s σ H D I (k D σ H q)⟩
theorem PSs.imp {X : Cx} {e : List Stmt} {t t' : TS} (h : PSs X e t) (k : ∀ D σ H, t' D σ H → t D σ H) : PSs X e t' := ⟨fun pins s σ H D I q => h.run pins s σ H D I (k D σ H q)⟩
/-- operations on values -/
def RepN (K : PySem.W.Frag) (A : CT) (H G' H' : Hp) (v : V) (r : Rv) : Prop := RepR K A (fun _ => False) H G' H' v r
theorem RepN.r {σ : L2.St} {ρ : Env} {v : V} {r : Rv} (h : RepN K A H G' H' v r) (s : St K A σ G H ρ) : RepR K A (OwnS σ ρ) H G' H' v r := by
  unfold RepN RepR at *
  split at h
  · rename_i q
    obtain ⟨p, e, h1, h2, _, h4⟩ := h
    rw [if_pos q]
    exact ⟨p, e, h1, h2, fun z => OwnS.there s z h4, h4⟩
  · rename_i q
    rw [if_neg q]; exact h
end DY

set_option Elab.async false
set_option linter.all false
set_option maxRecDepth 100000
set_option maxHeartbeats 4000000
/-! ### rules for expressions -/
namespace DY
open PySem L2 PySem.Spec PyProof.Rows
variable [Tb]
variable {K : PySem.W.Frag} {A : CT} {G G' G1 G2 H H' H1 H2 : Hp} {σ : L2.St} {ρ ρ1 ρ2 ρ' : Env} {Q : VK}
theorem getD_some {i : Nat} {v : V} (h : σ.getD i none = some v) : σ[i]? = some (some v) := by
  rw [List.getD_eq_getElem?_getD] at h
  cases q : σ[i]? with
  | none => rw [q] at h; cases h
  | some x => rw [q] at h; exact congrArg some h
theorem getD_of {i : Nat} {v : Option V} (h : σ[i]? = some v) : σ.getD i none = v := by rw [List.getD_eq_getElem?_getD, h]; rfl
theorem own_set {i j : Nat} {p : Addr} {s : Slot} (ns : ∀ d, s ≠ .ow d) (h : Own σ (ρ.set i s) j p) : Own σ ρ j p ∧ j ≠ i := by
  obtain ⟨⟨d, h1⟩, h2⟩ := h
  by_cases e : i = j
  · subst e
    rw [List.getElem?_set_self'] at h1
    cases q : ρ[i]? with
    | none => rw [q] at h1; cases h1
    | some x => rw [q] at h1; exact absurd (Option.some.inj h1) (ns d)
  · rw [List.getElem?_set_ne e] at h1
    exact ⟨⟨⟨d, h1⟩, h2⟩, fun z => e z.symm⟩
/-- slot i gets something that is no own object -/
theorem St.put {i : Nat} {s : Slot} (h : St K A σ G H ρ) (ns : ∀ d, s ≠ .ow d) (k : SlotOk K A G H (σ.getD i none) s) : St K A σ G H (ρ.set i s) := by
  refine ⟨h.sub, by rw [List.length_set]; exact h.len, fun j z hz => ?_, fun a b p ha hb => h.dist a b p (own_set ns ha).1 (own_set ns hb).1⟩
  by_cases e : i = j
  · subst e
    rw [List.getElem?_set_self'] at hz
    cases q : ρ[i]? with
    | none => rw [q] at hz; cases hz
    | some x => rw [q] at hz; cases (Option.some.inj hz); exact k
  · rw [List.getElem?_set_ne e] at hz
    exact h.slot j z hz
theorem St.give {i : Nat} {d : D} (s : St K A σ G H ρ) (e : ρ[i]? = some (.ow d)) : ∃ p G2, σ[i]? = some (some (.ref p)) ∧ Nx K A σ G H ρ G2 H (ρ.set i (.sh d)) ∧ Rep K A G2 (.ref p) d := by
  obtain ⟨p, e1, n, h⟩ := s.slot i _ e
  have e2 := getD_some e1
  have s1 : St K A σ G H (ρ.set i .un) := s.put (fun _ z => nomatch z) trivial
  have no : ¬ OwnS σ (ρ.set i .un) p := fun ⟨j, z⟩ => by
    have := own_set (s := .un) (fun _ z => nomatch z) z
    exact this.2 (s.dist j i p this.1 ⟨⟨d, e⟩, e2⟩)
  obtain ⟨o, ho, s2, r, g⟩ := s1.freeze n h no
  have s3 := s2.put (i := i) (s := .sh d) (fun _ z => nomatch z) ⟨.ref p, e1, r⟩
  rw [List.set_set] at s3
  refine ⟨p, _, e2, ⟨⟨g, fun q hq => ?_, fun _ _ z _ _ => z, fun _ z => z⟩, s3, fun j q z => (own_set (s := .sh d) (fun _ z => nomatch z) z).1⟩, r⟩
  by_cases z : q = p
  · subst z; exact .inr (.inr ⟨i, ⟨d, e⟩, e2⟩)
  · rw [upd_ne z] at hq; exact .inl hq
section
variable {X : Cx}
theorem pd_var {i : Nat} {x : Str} {pos : Pos} (h : PE X (.Name x pos) (tVar i)) : PD A X (.Name x pos) (eVar i) := PE.imp h fun σ H Q q => by
  obtain ⟨G, ρ, r, ρ', s, e, k⟩ := q
  unfold eVar at e
  split at e
  · rename_i d hd
    cases e
    obtain ⟨v, e1, rv⟩ := s.slot i _ hd
    exact ⟨v, getD_some e1, k v G H (Nx.refl s) (RepR.of rv)⟩
  · rename_i d hd
    cases e
    obtain ⟨p, G2, e1, n, rv⟩ := s.give hd
    exact ⟨.ref p, e1, k _ G2 H n (RepR.of rv)⟩
  · cases e
theorem pd_c {e : Expr} {v : V} {d : D} (h : PE X e (tC v)) (r : ∀ G, Rep X.K A G v d) : PD A X e (eC d) := PE.imp h fun σ H Q q => by
  obtain ⟨G, ρ, r', ρ', s, e, k⟩ := q
  cases e
  exact k v G H (Nx.refl s) (RepR.of (r G))
theorem pd_int {i : Int} {j pos} : PD A X (.Constant (.int i) j pos) (eC (.int i)) := pd_c pe_int fun _ => .int i
theorem pd_bl {i : Bool} {j pos} : PD A X (.Constant (.bool i) j pos) (eC (.bl i)) := pd_c pe_bl fun _ => .bl i
theorem pd_non {j pos} : PD A X (.Constant .none j pos) (eC .non) := pd_c pe_non fun _ => .non
theorem rep_str {G : Hp} {x : Str} {l : List Nat} (h : x.cps.toList = l) : Rep K A G (.str x) (.str l) := by
  subst h
  have := Rep.str (K := K) (A := A) (G := G) x.cps.toList
  rw [S_cps] at this
  exact this
theorem pd_str {x : Str} {l : List Nat} {j pos} (h : x.cps.toList = l) : PD A X (.Constant (.str x) j pos) (eC (.str l)) := pd_c pe_str fun _ => rep_str h
/-! operations -/
variable (K A) in
def rD (f : D → D → R Rv) : R2 := fun x y H Q => ∃ G d1 d2 r, Sub G H ∧ Rep K A G x d1 ∧ Rep K A G y d2 ∧ f d1 d2 = .ok r ∧ ∀ v G' H', Nx0 G H G' H' → RepN K A H G' H' v r → Q v H'
variable (K A) in
def rDu (f : D → R Rv) : V → Hp → VK → Prop := fun x H Q => ∃ G d r, Sub G H ∧ Rep K A G x d ∧ f d = .ok r ∧ ∀ v G' H', Nx0 G H G' H' → RepN K A H G' H' v r → Q v H'
variable (K A) in
def rDn (f : List D → R Rv) : List V → Hp → VK → Prop := fun xs H Q => ∃ G ds r, Sub G H ∧ Reps K A G xs ds ∧ f ds = .ok r ∧ ∀ v G' H', Nx0 G H G' H' → RepN K A H G' H' v r → Q v H'
/-- where nothing new comes -/
theorem same_end {G H : Hp} {v : V} {d : D} (s : Sub G H) (r : Rep K A G v d) {Q : VK} (k : ∀ v G' H', Nx0 G H G' H' → RepN K A H G' H' v (d, false) → Q v H') : Q v H := k v G H (Nx0.refl s) (RepR.of r)
/-- from the state behind the arguments to the end -/
theorem end_of {G0 H0 : Hp} {ρ0 : Env} {r : Rv} (n : Nx K A σ G0 H0 ρ0 G H ρ) (k : ∀ v G' H', Nx K A σ G0 H0 ρ0 G' H' ρ → RepR K A (OwnS σ ρ) H0 G' H' v r → Q v H') : ∀ v G' H', Nx0 G H G' H' → RepN K A H G' H' v r → Q v H' := fun v G' H' n0 h => by
  have n1 := n.st.nx0 n0
  refine k v G' H' (n.trans n1) ?_
  have h' := h.r n.st
  unfold RepR at *
  split at h'
  · rename_i q
    rw [if_pos q]
    obtain ⟨p, e, h1, h2, h3, h4⟩ := h'
    refine ⟨p, e, h1, h2, h3, ?_⟩
    cases z : H0 p with
    | none => rfl
    | some o => exact absurd h4 (n.ext.there p (by rw [z]; exact fun x => nomatch x))
  · rename_i q
    rw [if_neg q]; exact h'
theorem bin_use {f : D → D → R Rv} {ma mb : Ev} (h : liftE K A (eBin f ma mb) σ H Q) : liftE K A ma σ H fun x H1 => liftE K A mb σ H1 fun y H2 => rD K A f x y H2 Q := by
  obtain ⟨G, ρ, r, ρ', s, e, k⟩ := h
  obtain ⟨⟨d1, ρ1⟩, e1, e⟩ := bind_ok e
  obtain ⟨⟨d2, ρ2⟩, e2, e⟩ := bind_ok e
  obtain ⟨r', e3, e⟩ := bind_ok e
  cases e
  refine use_val s e1 fun x G1 H1 n1 r1 => use_val n1.st e2 fun y G2 H2 n2 r2 => ⟨G2, d1, d2, r, n2.st.sub, r1.mono n2.gs, r2, e3, end_of (n1.trans n2) k⟩
theorem un_use {f : D → R Rv} {ma : Ev} (h : liftE K A (eUn f ma) σ H Q) : liftE K A ma σ H fun x H1 => rDu K A f x H1 Q := by
  obtain ⟨G, ρ, r, ρ', s, e, k⟩ := h
  obtain ⟨⟨d1, ρ1⟩, e1, e⟩ := bind_ok e
  obtain ⟨r', e3, e⟩ := bind_ok e
  cases e
  exact use_val s e1 fun x G1 H1 n1 r1 => ⟨G1, d1, r, n1.st.sub, r1, e3, end_of n1 k⟩
theorem n_use {f : List D → R Rv} {ms : List Ev} (h : liftE K A (eN f ms) σ H Q) : liftA K A ms σ H fun xs H1 => rDn K A f xs H1 Q := by
  obtain ⟨G, ρ, r, ρ', s, e, k⟩ := h
  obtain ⟨⟨ds, ρ1⟩, e1, e⟩ := bind_ok e
  obtain ⟨r', e3, e⟩ := bind_ok e
  cases e
  exact ⟨G, ρ, ds, _, s, e1, fun vs G1 H1 n1 r1 => ⟨G1, ds, r, n1.st.sub, r1, e3, end_of n1 k⟩⟩
variable {a b c : Expr} {ma mb mc : Ev} {pos : Pos}
theorem pd_bin {op : Operator} {f : D → D → R Rv} (hf : OpR X (binaryOp op) (rD X.K A f)) (ha : PD A X a ma) (hb : PD A X b mb) : PD A X (.BinOp a op b pos) (eBin f ma mb) := PE.imp (pe_op hf ha hb) fun _ _ _ => bin_use
theorem pd_un {op : UnaryOp} {f : D → R Rv} (hf : UnR X (unaryOp op) (rDu X.K A f)) (ha : PD A X a ma) : PD A X (.UnaryOp op a pos) (eUn f ma) := PE.imp (pe_un hf ha) fun _ _ _ => un_use
theorem pd_cmp {op : CmpOp} {f : D → D → R Rv} (hf : OpR X (compareOp op) (rD X.K A f)) (ha : PD A X a ma) (hb : PD A X b mb) (hm : behindInMarks op b = false) : PD A X (.Compare a [op] [b] pos) (eBin f ma mb) := PE.imp (pe_cmpR hf ha hb hm) fun _ _ _ => bin_use
theorem pd_ix {f : D → D → R Rv} (hf : IxR X (rD X.K A f)) (ha : PD A X a ma) (hb : PD A X b mb) (hs : PlainIx b) : PD A X (.Subscript a b pos) (eBin f ma mb) := PE.imp (pe_ix hf ha hb hs) fun _ _ _ => bin_use
/-- a test from a value -/
theorem test_use {m : Ev} {Q : Bool → Hp → Prop} (h : liftT K A m σ H Q) : liftE K A m σ H fun x H' => ∃ k, x = .bl k ∧ Q k H' := by
  obtain ⟨G, ρ, b, ρ', s, e, k⟩ := h
  refine use_val s e fun v G1 H1 n r => ?_
  cases r
  exact ⟨b, rfl, k G1 H1 n⟩
theorem pdt_cmp {op : CmpOp} {f : D → D → R Rv} (hf : OpR X (compareOp op) (rD X.K A f)) (ha : PD A X a ma) (hb : PD A X b mb) (hm : behindInMarks op b = false) : PDT A X (.Compare a [op] [b] pos) (eBin f ma mb) :=
  PT.imp (pt_cmpR hf ha hb hm) fun _ _ _ h => bin_use (test_use h)
theorem pdt_val (h : PD A X a ma) (he : ∀ whole, isTrue a X.env whole = (do let v ← whole; standAt a.pos; holding [v] (truthy v)) := by intro _; rfl) : PDT A X a ma := PT.imp (pt_val h he) fun _ _ _ h => test_use h
theorem isB_ok {x : D} {c : Bool} (h : isB x = .ok c) : x = .bl c := by
  cases x <;> first | cases h; rfl | cases h
theorem if_use {t : Ev} (h : liftE K A (eIf t ma mb) σ H Q) : liftT K A t σ H fun c H1 => if c = true then liftE K A ma σ H1 Q else liftE K A mb σ H1 Q := by
  obtain ⟨G, ρ, r, ρ', s, e, k⟩ := h
  obtain ⟨⟨x, ρ1⟩, e1, e⟩ := bind_ok e
  obtain ⟨c, e2, e⟩ := bind_ok e
  cases isB_ok e2
  refine ⟨G, ρ, c, ρ1, s, e1, fun G1 H1 n => ?_⟩
  have fin : ∀ {m : Ev}, m ρ1 = .ok (r, ρ') → liftE K A m σ H1 Q := fun {m} e => ⟨G1, ρ1, r, ρ', n.st, e, fun v G2 H2 n2 h => by
    refine k v G2 H2 (n.trans n2) ?_
    unfold RepR at *
    split at h
    · rename_i q
      rw [if_pos q]
      obtain ⟨p, e, h1, h2, h3, h4⟩ := h
      refine ⟨p, e, h1, h2, h3, ?_⟩
      cases z : H p with
      | none => rfl
      | some o => exact absurd h4 (n.ext.there p (by rw [z]; exact fun x => nomatch x))
    · rename_i q
      rw [if_neg q]; exact h⟩
  cases c with
  | true => exact iteT (fin e)
  | false => exact iteF (fin e)
theorem pd_if (hc : PDT A X c mc) (ha : PD A X a ma) (hb : PD A X b mb) : PD A X (.IfExp c a b pos) (eIf mc ma mb) := PE.imp (pe_ifExp hc ha hb) fun _ _ _ => if_use
/-- a result of a later part is one of the whole -/
theorem later {r : Rv} {v : V} (n : Nx K A σ G H ρ G1 H1 ρ1) (h : RepR K A (OwnS σ ρ') H1 G' H' v r) : RepR K A (OwnS σ ρ') H G' H' v r := by
  unfold RepR at *
  split at h
  · rename_i q
    rw [if_pos q]
    obtain ⟨p, e, h1, h2, h3, h4⟩ := h
    refine ⟨p, e, h1, h2, h3, ?_⟩
    cases z : H p with
    | none => rfl
    | some o => exact absurd h4 (n.ext.there p (by rw [z]; exact fun x => nomatch x))
  · rename_i q
    rw [if_neg q]; exact h
theorem and_use (h : liftE K A (eAnd ma mb) σ H Q) : liftE K A ma σ H fun x H1 => ∃ c, x = .bl c ∧ if c = true then liftE K A mb σ H1 Q else Q (.bl false) H1 := by
  obtain ⟨G, ρ, r, ρ', s, e, k⟩ := h
  obtain ⟨⟨x, ρ1⟩, e1, e⟩ := bind_ok e
  obtain ⟨c, e2, e⟩ := bind_ok e
  cases isB_ok e2
  refine use_val s e1 fun v G1 H1 n rv => ?_
  cases rv
  refine ⟨c, rfl, ?_⟩
  cases c with
  | true => exact iteT ⟨G1, ρ1, r, ρ', n.st, e, fun v G2 H2 n2 h => k v G2 H2 (n.trans n2) (later n h)⟩
  | false => cases e; exact iteF (k _ G1 H1 n (RepR.of (.bl false)))
theorem or_use (h : liftE K A (eOr ma mb) σ H Q) : liftE K A ma σ H fun x H1 => ∃ c, x = .bl c ∧ if c = true then Q (.bl true) H1 else liftE K A mb σ H1 Q := by
  obtain ⟨G, ρ, r, ρ', s, e, k⟩ := h
  obtain ⟨⟨x, ρ1⟩, e1, e⟩ := bind_ok e
  obtain ⟨c, e2, e⟩ := bind_ok e
  cases isB_ok e2
  refine use_val s e1 fun v G1 H1 n rv => ?_
  cases rv
  refine ⟨c, rfl, ?_⟩
  cases c with
  | true => cases e; exact iteT (k _ G1 H1 n (RepR.of (.bl true)))
  | false => exact iteF ⟨G1, ρ1, r, ρ', n.st, e, fun v G2 H2 n2 h => k v G2 H2 (n.trans n2) (later n h)⟩
theorem not_use (h : liftE K A (eNot ma) σ H Q) : liftE K A ma σ H fun x H1 => ∃ c, x = .bl c ∧ Q (.bl (!c)) H1 := by
  obtain ⟨G, ρ, r, ρ', s, e, k⟩ := h
  obtain ⟨⟨x, ρ1⟩, e1, e⟩ := bind_ok e
  obtain ⟨c, e2, e⟩ := bind_ok e
  cases isB_ok e2
  cases e
  refine use_val s e1 fun v G1 H1 n rv => ?_
  cases rv
  exact ⟨c, rfl, k _ G1 H1 n (RepR.of (.bl (!c)))⟩
variable {rest : List Expr}
theorem pd_and (ha : PD A X a ma) (hb : PD A X (.BoolOp .And (b :: rest) pos) mb) : PD A X (.BoolOp .And (a :: b :: rest) pos) (eAnd ma mb) := PE.imp (pe_and ha hb) fun _ _ _ => and_use
theorem pd_or (ha : PD A X a ma) (hb : PD A X (.BoolOp .Or (b :: rest) pos) mb) : PD A X (.BoolOp .Or (a :: b :: rest) pos) (eOr ma mb) := PE.imp (pe_or ha hb) fun _ _ _ => or_use
theorem pd_one {op} (h : PD A X a ma) : PD A X (.BoolOp op [a] pos) ma := pe_one h
theorem pd_not (ha : PD A X a ma) : PD A X (.UnaryOp .Not a pos) (eNot ma) := PE.imp (pe_not ha) fun _ _ _ => not_use
/-! tests of and, or, not -/
theorem val_ok {m : Ev} {d : D} (e : val m ρ = .ok (d, ρ')) : ∃ f, m ρ = .ok ((d, f), ρ') := by
  obtain ⟨⟨r, ρ1⟩, e1, e2⟩ := bind_ok e
  cases e2
  exact ⟨r.2, e1⟩
theorem val_of {m : Ev} {r : Rv} (e : m ρ = .ok (r, ρ')) : val m ρ = .ok (r.1, ρ') := by unfold val; rw [e]; rfl
theorem tand_use {Q : Bool → Hp → Prop} (h : liftT K A (eAnd ma mb) σ H Q) : liftT K A ma σ H fun c H1 => if c = true then liftT K A mb σ H1 Q else Q false H1 := by
  obtain ⟨G, ρ, b, ρ', s, e, k⟩ := h
  obtain ⟨f, e⟩ := val_ok e
  obtain ⟨⟨x, ρ1⟩, e1, e⟩ := bind_ok e
  obtain ⟨c, e2, e⟩ := bind_ok e
  cases isB_ok e2
  refine ⟨G, ρ, c, ρ1, s, e1, fun G1 H1 n => ?_⟩
  cases c with
  | true => exact iteT ⟨G1, ρ1, b, ρ', n.st, val_of e, fun G2 H2 n2 => k G2 H2 (n.trans n2)⟩
  | false => cases e; exact iteF (k G1 H1 n)
theorem tor_use {Q : Bool → Hp → Prop} (h : liftT K A (eOr ma mb) σ H Q) : liftT K A ma σ H fun c H1 => if c = true then Q true H1 else liftT K A mb σ H1 Q := by
  obtain ⟨G, ρ, b, ρ', s, e, k⟩ := h
  obtain ⟨f, e⟩ := val_ok e
  obtain ⟨⟨x, ρ1⟩, e1, e⟩ := bind_ok e
  obtain ⟨c, e2, e⟩ := bind_ok e
  cases isB_ok e2
  refine ⟨G, ρ, c, ρ1, s, e1, fun G1 H1 n => ?_⟩
  cases c with
  | true => cases e; exact iteT (k G1 H1 n)
  | false => exact iteF ⟨G1, ρ1, b, ρ', n.st, val_of e, fun G2 H2 n2 => k G2 H2 (n.trans n2)⟩
theorem tnot_use {Q : Bool → Hp → Prop} (h : liftT K A (eNot ma) σ H Q) : liftT K A ma σ H fun c H1 => Q (!c) H1 := by
  obtain ⟨G, ρ, b, ρ', s, e, k⟩ := h
  obtain ⟨f, e⟩ := val_ok e
  obtain ⟨⟨x, ρ1⟩, e1, e⟩ := bind_ok e
  obtain ⟨c, e2, e⟩ := bind_ok e
  cases isB_ok e2
  cases e
  exact ⟨G, ρ, c, _, s, e1, fun G1 H1 n => k G1 H1 n⟩
theorem PW.imp {X : Cx} {e : Expr} {t t' : TT} (h : PW X e t) (k : ∀ σ H Q, t' σ H Q → t σ H Q) : PW X e t' := ⟨fun wh pins s σ H Q I q => h.run wh pins s σ H Q I (k σ H Q q)⟩
abbrev PDW (A : CT) (X : Cx) (e : Expr) (m : Ev) : Prop := PW X e (liftT X.K A m)
theorem pdw_and1 (ha : PDT A X a ma) : PDW A X (.BoolOp .And [a] pos) ma := pw_and1 ha
theorem pdw_or1 (ha : PDT A X a ma) : PDW A X (.BoolOp .Or [a] pos) ma := pw_or1 ha
theorem pdw_and (ha : PDT A X a ma) (hb : PDW A X (.BoolOp .And (b :: rest) pos) mb) : PDW A X (.BoolOp .And (a :: b :: rest) pos) (eAnd ma mb) := PW.imp (pw_and ha hb) fun _ _ _ => tand_use
theorem pdw_or (ha : PDT A X a ma) (hb : PDW A X (.BoolOp .Or (b :: rest) pos) mb) : PDW A X (.BoolOp .Or (a :: b :: rest) pos) (eOr ma mb) := PW.imp (pw_or ha hb) fun _ _ _ => tor_use
theorem pdt_w (h : PDW A X a ma) : PDT A X a ma := h.pt
theorem pdt_not (ha : PDT A X a ma) : PDT A X (.UnaryOp .Not a pos) (eNot ma) := PT.imp (pt_not ha) fun _ _ _ => tnot_use
/-! a chain -/
theorem chain_use {f g : D → D → R Rv} (h : liftE K A (eChain f g ma mb mc) σ H Q) (hf : ∀ x y r, f x y = .ok r → r.2 = false) : liftE K A ma σ H fun x H1 => liftE K A mb σ H1 fun y H2 => rD K A f x y H2 fun z H3 => ∃ k, z = .bl k ∧ (if k = true then liftE K A mc σ H3 fun w' H4 => rD K A g y w' H4 Q else Q (.bl false) H3) := by
  obtain ⟨G, ρ, r, ρ', s, e, k⟩ := h
  obtain ⟨⟨d1, ρ1⟩, e1, e⟩ := bind_ok e
  obtain ⟨⟨d2, ρ2⟩, e2, e⟩ := bind_ok e
  obtain ⟨⟨d3, f3⟩, e3, e⟩ := bind_ok e
  obtain ⟨c, e4, e⟩ := bind_ok e
  obtain rfl := isB_ok e4
  obtain rfl : f3 = false := hf _ _ _ e3
  refine use_val s e1 fun x G1 H1 n1 r1 => use_val n1.st e2 fun y G2 H2 n2 r2 => ⟨G2, d1, d2, _, n2.st.sub, r1.mono n2.gs, r2, e3, fun v G3 H3 n3 hv => ?_⟩
  have n3' := n2.st.nx0 n3
  cases (show Rep K A G3 v (.bl c) from hv)
  refine ⟨c, rfl, ?_⟩
  cases c with
  | true =>
    refine iteT ?_
    replace e : (val mc ρ2 >>= fun x => g d2 x.1 >>= fun r => pure (r, x.2)) = R.ok (r, ρ') := e
    obtain ⟨⟨d4, ρ4⟩, e5, e⟩ := bind_ok e
    obtain ⟨r', e6, e⟩ := bind_ok e
    cases e
    exact use_val n3'.st e5 fun w G4 H4 n4 r4 => ⟨G4, d2, d4, r, n4.st.sub, (r2.mono n3'.gs).mono n4.gs, r4, e6, end_of (((n1.trans n2).trans n3').trans n4) k⟩
  | false => cases e; exact iteF (k _ G3 H3 ((n1.trans n2).trans n3') (RepR.of (.bl false)))
theorem pd_chain {op op' : CmpOp} {f g : D → D → R Rv} (hf : OpR X (compareOp op) (rD X.K A f)) (hg : OpR X (compareOp op') (rD X.K A g)) (ha : PD A X a ma) (hb : PD A X b mb) (hc : PD A X c mc) (nf : ∀ x y r, f x y = .ok r → r.2 = false)
    (hm : lastMarks [op, op'] [b, c] = false := by with_unfolding_all rfl) : PD A X (.Compare a [op, op'] [b, c] pos) (eChain f g ma mb mc) := PE.imp (pe_chain hf hg ha hb hc hm) fun _ _ _ h => chain_use h nf
theorem pdt_chain {op op' : CmpOp} {f g : D → D → R Rv} (hf : OpR X (compareOp op) (rD X.K A f)) (hg : OpR X (compareOp op') (rD X.K A g)) (ha : PD A X a ma) (hb : PD A X b mb) (hc : PD A X c mc) (nf : ∀ x y r, f x y = .ok r → r.2 = false)
    (hm : lastMarks [op, op'] [b, c] = false := by with_unfolding_all rfl) : PDT A X (.Compare a [op, op'] [b, c] pos) (eChain f g ma mb mc) := PT.imp (pt_chain hf hg ha hb hc hm) fun _ _ _ h => chain_use (test_use h) nf
/-! arguments -/
theorem pda_nil : PDA A X [] [] := PA.imp pa_nil fun σ H Q h => by
  obtain ⟨G, ρ, ds, ρ', s, e, k⟩ := h
  cases e
  exact k [] G H (Nx.refl s) .nil
theorem cons_use {m : Ev} {ms : List Ev} {Q : List V → Hp → Prop} (h : liftA K A (m :: ms) σ H Q) : tCons (liftE K A m) (liftA K A ms) σ H Q := by
  obtain ⟨G, ρ, ds, ρ', s, e, k⟩ := h
  obtain ⟨⟨d, ρ1⟩, e1, e⟩ := bind_ok e
  obtain ⟨⟨ds', ρ2⟩, e2, e⟩ := bind_ok e
  cases e
  exact use_val s e1 fun v G1 H1 n r => ⟨G1, ρ1, ds', _, n.st, e2, fun vs G2 H2 n2 rs => k _ G2 H2 (n.trans n2) (.cons (r.mono n2.gs) rs)⟩
theorem pda_cons {es : List Expr} {ms : List Ev} (ha : PD A X a ma) (hr : PDA A X es ms) (hs : starEach (a :: es) X.env = (false, eval a X.env) :: starEach es X.env := by rfl) : PDA A X (a :: es) (ma :: ms) := PA.imp (pa_cons ha hr hs) fun _ _ _ => cons_use
/-! displays -/
def mkTup (ds : List D) : R Rv := if ds.length ≤ 1000 then .ok (.tup ds, false) else .no
def mkKey (ds : List D) : R Rv := if ds.length ≤ 1000 then .ok (.kt ds, false) else .no
def mkLst (ds : List D) : R Rv := if ds.length ≤ 1000 then .ok (.lst ds, true) else .no
theorem upd_nx0 {p : Addr} {o : HO} (s : Sub G H) (n : H p = none) : Nx0 G H G (upd H p o) ∧ G p = none := by
  have gn : G p = none := by
    cases q : G p with
    | none => rfl
    | some u => obtain ⟨x, e⟩ := s.ex q; rw [n] at e; cases e
  refine ⟨⟨⟨fun _ _ h => h, fun _ h => .inl h, fun q u h _ _ => by rw [upd_ne (ne_of_none h n)]; exact h, fun q h => ?_⟩, ⟨fun q u h => ?_, nT.new n s.tb, s.nt, s.bs⟩⟩, gn⟩
  · by_cases z : q = p
    · subst z; rw [upd_same]; exact fun x => nomatch x
    · rw [upd_ne z]; exact h
  · have : q ≠ p := fun z => by subst z; rw [gn] at h; cases h
    rw [upd_ne this]
    exact s q u h
theorem nx0_new {p : Addr} {o : HO} (s : Sub G H) (n : H p = none) (t : nT o := by trivial) : Nx0 G H (upd G p o) (upd H p o) := by
  obtain ⟨x, gn⟩ := upd_nx0 (o := o) s n
  refine ⟨⟨SL.Same.new gn, fun q hq => ?_, x.ext.hs, x.ext.there⟩, ⟨fun q u h => ?_, x.sub.tb, x.sub.nt_new t, x.sub.bs.trans (SL.Same.new gn)⟩⟩
  · by_cases z : q = p
    · subst z; exact .inr (.inl n)
    · rw [upd_ne z] at hq; exact .inl hq
  · by_cases z : q = p
    · subst z; rw [upd_same] at h; cases h; exact .inl upd_same
    · rw [upd_ne z] at h; exact x.sub q u h
/-- a new tuple; one that is to be a key -/
theorem new_tup {p : Addr} {o : Obj} {vs : List V} {ds : List D} (s : Sub G H) (n : H p = none) (ho : o.dict = none) (r : Reps K A G vs ds) : Nx0 G H (upd G p (.frz o (.tup vs))) (upd H p (.frz o (.tup vs))) ∧ Rep K A (upd G p (.frz o (.tup vs))) (.ref p) (.tup ds) :=
  ⟨nx0_new s n, .tup ho upd_same (r.mono (SL.Same.new (upd_nx0 (o := .tup vs) s n).2))⟩
theorem new_key {p : Addr} {vs : List V} {ds : List D} (s : Sub G H) (n : H p = none) (r : Reps K A G vs ds) : Nx0 G H (upd G p (.tup vs)) (upd H p (.tup vs)) ∧ Rep K A (upd G p (.tup vs)) (.ref p) (.kt ds) :=
  ⟨nx0_new s n, .kt upd_same (r.mono (SL.Same.new (upd_nx0 (o := .tup vs) s n).2))⟩
theorem new_lst {p : Addr} {vs : List V} {ds : List D} (s : Sub G H) (n : H p = none) (r : Reps K A G vs ds) : Nx0 G H G (upd H p (.lst vs)) ∧ RepN K A H G (upd H p (.lst vs)) (.ref p) (.lst ds, true) :=
  ⟨(upd_nx0 s n).1, RepR.new (upd_nx0 (o := .lst vs) s n).2 ⟨vs, upd_same, r⟩ id n⟩
theorem tup_r {vs : List V} (h : rDn K A mkTup vs H Q) : vs.length ≤ sizeLine ∧ ∀ p o, o.dict = none → H p = none → Q (.ref p) (upd H p (.frz o (.tup vs))) := by
  obtain ⟨G, ds, r, s, rs, e, k⟩ := h
  unfold mkTup at e
  split at e
  · cases e
    rename_i q
    refine ⟨SL.szL (by rw [rs.len]; exact q), fun p o ho n => ?_⟩
    obtain ⟨n0, rr⟩ := new_tup (K := K) (A := A) s n ho rs
    exact k _ _ _ n0 (RepR.of rr)
  · cases e
def tTupF (t : TA) : TE := fun σ H Q => t σ H fun xs H1 => xs.length ≤ sizeLine ∧ ∀ p o, o.dict = none → H1 p = none → Q (.ref p) (upd H1 p (.frz o (.tup xs)))
theorem pe_tupF {X : Cx} {es : List Expr} {t : TA} {pos : Pos} {x1} (h : PA X es t) : PE X (.Tuple es x1 pos) (tTupF t) := by
  refine ⟨fun pins s σ H Q I hq => ?_⟩
  refine wpAny_Tuple_spliced (thn (h.run pos pins s σ H _ I hq) fun us s1 ⟨xs, H1, I1, r, z, q⟩ => ⟨by rw [← r.length]; exact z, ?_⟩)
  have hf : H1 s1.heap.objs.size = none := I1.hok.fresh (Nat.le_refl _)
  refine ⟨.ref s1.heap.objs.size, upd H1 s1.heap.objs.size (.frz { cls := .type "tuple", data := .seq us.toArray } (.tup xs)), I1.laid (t' := s1.toks) (fun b u e => Heap.get?_push_of_some _ e) (Nat.le_refl _) ?_, rfl, q _ _ rfl hf⟩
  exact ⟨Heap.get?_push_size _ rfl, z, us, r, ⟨_, Heap.get?_push_size _ rfl, rfl, _, rfl⟩⟩
theorem lst_r {vs : List V} (h : rDn K A mkLst vs H Q) : vs.length ≤ sizeLine ∧ ∀ p, H p = none → Q (.ref p) (upd H p (.lst vs)) := by
  obtain ⟨G, ds, r, s, rs, e, k⟩ := h
  unfold mkLst at e
  split at e
  · cases e
    rename_i q
    refine ⟨SL.szL (by rw [rs.len]; exact q), fun p n => ?_⟩
    obtain ⟨n0, rr⟩ := new_lst (K := K) (A := A) s n rs
    exact k _ _ _ n0 rr
  · cases e
theorem TA_mono {ms : List Ev} {Q Q' : List V → Hp → Prop} (h : liftA K A ms σ H Q) (k : ∀ vs H', Q vs H' → Q' vs H') : liftA K A ms σ H Q' := by
  obtain ⟨G, ρ, ds, ρ', s, e, z⟩ := h
  exact ⟨G, ρ, ds, ρ', s, e, fun vs G' H' n r => k _ _ (z vs G' H' n r)⟩
theorem pd_tup {es : List Expr} {ms : List Ev} {x1} (h : PDA A X es ms) : PD A X (.Tuple es x1 pos) (eN mkTup ms) := PE.imp (pe_tupF h) fun _ _ _ q => TA_mono (n_use q) fun _ _ => tup_r
theorem pd_lst {es : List Expr} {ms : List Ev} (h : PDA A X es ms) : PD A X (.List es pos) (eN mkLst ms) := PE.imp (pe_lst h) fun _ _ _ q => TA_mono (n_use q) fun _ _ => lst_r
/-! calls of built-ins -/
variable {x : Str} {p : Pos} {es : List Expr} {ms : List Ev} {id T : String}
theorem pd_callB {f : List D → R Rv} (hc : CallR X (.builtin id) (rDn X.K A f)) (hg : Gl X x) (hm : X.mg x = none) (hv : bootBuiltins x = some (.builtin id)) (ha : PDA A X (a :: es) ms) (hn : x ≠ "__name__" := by decide) (hdb : (x == ("__debug__" : Str)) = false := by decide)
    (he : starEach (a :: es) X.env = (false, eval a X.env) :: starEach es X.env := by rfl) (hpl : (backTo pos (starEach es X.env)).any (·.1) = false := by rfl) : PD A X (.Call (.Name x p) (a :: es) [] pos) (eN f ms) := PE.imp (pe_callB hc hg hm hv ha hn hdb he hpl) fun _ _ _ => n_use
theorem pd_callTy {f : List D → R Rv} (hc : CallR X (.type T) (rDn X.K A f)) (hg : Gl X x) (hm : X.mg x = none) (hv : bootBuiltins x = some (.type T)) (ha : PDA A X (a :: es) ms) (hn : x ≠ "__name__" := by decide) (hdb : (x == ("__debug__" : Str)) = false := by decide)
    (he : starEach (a :: es) X.env = (false, eval a X.env) :: starEach es X.env := by rfl) (hpl : (backTo pos (starEach es X.env)).any (·.1) = false := by rfl) : PD A X (.Call (.Name x p) (a :: es) [] pos) (eN f ms) := PE.imp (pe_callTy hc hg hm hv ha hn hdb he hpl) fun _ _ _ => n_use
end
end DY

set_option linter.all false
/-! ### the operations on data -/
namespace DY
/-- no own operator -/
def no2 : D → D → R Rv := fun _ _ => .no
def no1 : D → R Rv := fun _ => .no
def int_ (i : Int) : R Rv := .ok (.int i, false)
def bl_ (b : Bool) : R Rv := .ok (.bl b, false)
def str_ (l : List Nat) : R Rv := .ok (.str l, false)
def mulOk (i j : Int) : Bool := decide (i.natAbs.log2 + j.natAbs.log2 < 1000000)
def divOk (j : Int) : Bool := decide (j ≠ 0) && decide (j.natAbs.log2 < 9000)
def addD (own : D → D → R Rv) : D → D → R Rv
  | .int i, .int j => int_ (i + j)
  | .str a, .str b => if a.length + b.length ≤ 100000 then str_ (a ++ b) else .no
  | .lst a, .lst b => if a.length + b.length ≤ 1000 then .ok (.lst (a ++ b), true) else .no
  | .tup a, .tup b => if a.length + b.length ≤ 1000 then .ok (.tup (a ++ b), false) else .no
  | x, y => own x y
def subD (own : D → D → R Rv) : D → D → R Rv
  | .int i, .int j => int_ (i - j)
  | x, y => own x y
def mulD (own : D → D → R Rv) : D → D → R Rv
  | .int i, .int j => if mulOk i j then int_ (i * j) else .no
  | .lst a, .int k => if 0 ≤ k ∧ k ≤ 1000 ∧ a.length * k.toNat ≤ 1000 then .ok (.lst (List.replicate k.toNat a).flatten, true) else .no
  | x, y => own x y
def fdivD : D → D → R Rv
  | .int i, .int j => if divOk j then int_ (i.fdiv j) else .no
  | _, _ => .no
def modD : D → D → R Rv
  | .int i, .int j => if j = 0 then .no else int_ (i.fmod j)
  | _, _ => .no
def powD : D → D → R Rv
  | .int i, .int j => if 0 ≤ j ∧ j ≤ 1000 ∧ i.natAbs < 18446744073709551616 then int_ (i ^ j.toNat) else .no
  | _, _ => .no
def negD (own : D → R Rv) : D → R Rv
  | .int i => int_ (-i)
  | x => own x
/-! order -/
def ltN : List Nat → List Nat → Bool
  | [], [] => false
  | [], _ :: _ => true
  | _ :: _, [] => false
  | a :: r, b :: t => decide (a < b) || (decide (a = b) && ltN r t)
def ltD : D → D → R Rv
  | .int i, .int j => bl_ (decide (i < j))
  | .str a, .str b => bl_ (ltN a b)
  | _, _ => .no
def leD : D → D → R Rv
  | .int i, .int j => bl_ (decide (i ≤ j))
  | .str a, .str b => bl_ (!ltN b a)
  | _, _ => .no
def gtD : D → D → R Rv
  | .int i, .int j => bl_ (decide (j < i))
  | .str a, .str b => bl_ (ltN b a)
  | _, _ => .no
def geD : D → D → R Rv
  | .int i, .int j => bl_ (decide (j ≤ i))
  | .str a, .str b => bl_ (!ltN a b)
  | _, _ => .no
/-! equality of plain data -/
def sok (l : List Nat) : Bool := l.all fun c => decide (c < 1114112)
mutual
def dok : Nat → D → Bool
  | _, .non => true
  | _, .bl _ => true
  | _, .int _ => true
  | _, .str l => sok l
  | n + 1, .tup xs => doks n xs
  | n + 1, .kt xs => doks n xs
  | n + 1, .lst xs => doks n xs
  | n + 1, .fls xs => doks n xs
  | _, _ => false
def doks : Nat → List D → Bool
  | _, [] => true
  | n, x :: xs => dok n x && doks n xs
end
mutual
def eqv : D → D → Bool
  | .non, .non => true
  | .bl a, .bl b => a == b
  | .bl a, .int j => (if a then 1 else 0) == j
  | .int i, .bl b => i == (if b then 1 else 0)
  | .int i, .int j => i == j
  | .str a, .str b => a == b
  | .tup a, .tup b => eqvs a b
  | .tup a, .kt b => eqvs a b
  | .kt a, .tup b => eqvs a b
  | .kt a, .kt b => eqvs a b
  | .lst a, .lst b => eqvs a b
  | .lst a, .fls b => eqvs a b
  | .fls a, .lst b => eqvs a b
  | .fls a, .fls b => eqvs a b
  | _, _ => false
def eqvs : List D → List D → Bool
  | [], [] => true
  | x :: xs, y :: ys => eqv x y && eqvs xs ys
  | _, _ => false
end
def dep : Nat := 40
def eqG (own : D → D → R Rv) (x y : D) : R Rv := if dok dep x && dok dep y then bl_ (eqv x y) else own x y
def eqD (own : D → D → R Rv) : D → D → R Rv
  | .int i, .int j => bl_ (decide (i = j))
  | .str a, .str b => bl_ (decide (a = b))
  | .bl a, .bl b => bl_ (decide (a = b))
  | x, y => eqG own x y
def neG (own : D → D → R Rv) (x y : D) : R Rv := if dok dep x && dok dep y then bl_ (!eqv x y) else do
  let r ← own x y
  let b ← isB r.1
  bl_ (!b)
def neD (own : D → D → R Rv) : D → D → R Rv
  | .int i, .int j => bl_ (!decide (i = j))
  | .str a, .str b => bl_ (!decide (a = b))
  | .bl a, .bl b => bl_ (!decide (a = b))
  | x, y => neG own x y
def isN : D → D → R Rv
  | .any, .non => .no
  | .non, .non => bl_ true
  | _, .non => bl_ false
  | _, _ => .no
def notN : D → D → R Rv
  | .any, .non => .no
  | .non, .non => bl_ false
  | _, .non => bl_ true
  | _, _ => .no
/-! in -/
def flat : D → Bool
  | .non => true
  | .bl _ => true
  | .int _ => true
  | .str _ => true
  | _ => false
def inB : D → D → R Bool
  | .str [c], .str s => .ok (decide (c ∈ s))
  | .int i, .dic kvs => .ok (dget kvs (.inl i)).isSome
  | .str s, .dic kvs => .ok (dget kvs (.inr s)).isSome
  | .kt ks, .dct kvs => do
    let k ← keysOf ks
    pure (dget kvs k).isSome
  | x, .tup ds => if flat x && ds.all flat then .ok (ds.any fun z => eqv z x) else .no
  | x, .lst ds => if dok dep x && doks dep ds then .ok (ds.any fun z => eqv z x) else .no
  | x, .fls ds => if dok dep x && doks dep ds then .ok (ds.any fun z => eqv z x) else .no
  | _, _ => .no
def inD (x y : D) : R Rv := do let b ← inB x y; bl_ b
def ninD (x y : D) : R Rv := do let b ← inB x y; bl_ (!b)
/-! x[i] -/
def ixN (n : Nat) (i : Int) : Option Nat := if 0 ≤ i then (if i < n then some i.toNat else none) else if -(n : Int) ≤ i then some (i + n).toNat else none
def atI {α : Type} (xs : List α) (i : Int) : Option α := (ixN xs.length i).bind fun j => xs[j]?
def opt : Option D → R Rv
  | some d => .ok (d, false)
  | none => .no
def ixD : D → D → R Rv
  | .lst xs, .int i => opt (atI xs i)
  | .fls xs, .int i => opt (atI xs i)
  | .tup xs, .int i => opt (atI xs i)
  | .str s, .int i => if s.length ≤ 100000 then opt ((atI s i).map fun c => .str [c]) else .no
  | .dic kvs, .int i => opt (dget kvs (.inl i))
  | .dic kvs, .str s => opt (dget kvs (.inr s))
  | .dct kvs, .kt ks => do
    let k ← keysOf ks
    opt (dget kvs k)
  | _, _ => .no
/-! slices -/
def sIx (n d : Nat) : Option Int → Nat
  | none => d
  | some v => if v < 0 then (v + n).toNat else min v.toNat n
def cut {α : Type} (xs : List α) (lo hi : Option Int) : List α := (xs.drop (sIx xs.length 0 lo)).take (sIx xs.length xs.length hi - sIx xs.length 0 lo)
def sliceD (lo hi : Option Int) : D → R Rv
  | .lst xs => .ok (.lst (cut xs lo hi), true)
  | .fls xs => .ok (.lst (cut xs lo hi), true)
  | .tup xs => .ok (.tup (cut xs lo hi), false)
  | .str s => if s.length ≤ 100000 then str_ (cut s lo hi) else .no
  | _ => .no
def part : Option Ev → Env → R (Option Int × Env)
  | none, ρ => .ok (none, ρ)
  | some e, ρ => do
    let (x, ρ1) ← val e ρ
    match x with
    | .int i => .ok (some i, ρ1)
    | _ => .no
def eSlice (a : Ev) (lo hi : Option Ev) : Ev := fun ρ => do
  let (x, ρ1) ← val a ρ
  let (l, ρ2) ← part lo ρ1
  let (h, ρ3) ← part hi ρ2
  let r ← sliceD l h x
  pure (r, ρ3)
/-! built-ins -/
def lenB (own : D → R Rv) : D → R Rv
  | .str s => if s.length ≤ 100000 then int_ s.length else .no
  | .lst xs => int_ xs.length
  | .fls xs => int_ xs.length
  | .tup xs => int_ xs.length
  | .dic xs => int_ xs.length
  | x => own x
def lenD (own : D → R Rv) : List D → R Rv
  | [x] => lenB own x
  | _ => .no
def isB1 : BT → D → Option Bool
  | .int, .int _ => some true
  | .int, .bl _ => some true
  | .bool, .bl _ => some true
  | .str, .str _ => some true
  | .tuple, .tup _ => some true
  | .list, .lst _ => some true
  | .dict, .dic _ => some true
  | _, .ty _ => none
  | _, .cls _ => none
  | _, .fls _ => none
  | _, .dct _ => none
  | _, .kt _ => none
  | _, .any => none
  | .set, _ => none
  | .xv, _ => none
  | .xl, _ => none
  | .xa, _ => none
  | _, _ => some false
def isiD : List D → R Rv
  | [x, .ty t] => match isB1 t x with
    | some b => bl_ b
    | none => .no
  | [.ins c _, .cls c'] => bl_ (decide (c = c'))
  | [.fls _, .cls _] => .no
  | [.dct _, .cls _] => .no
  | [.kt _, .cls _] => .no
  | [.ty _, .cls _] => .no
  | [.cls _, .cls _] => .no
  | [.any, .cls _] => .no
  | [_, .cls _] => bl_ false
  | _ => .no
def absD : List D → R Rv
  | [.int i] => int_ (if i < 0 then -i else i)
  | _ => .no
def maxD : List D → R Rv
  | [.int i, .int j] => int_ (if j > i then j else i)
  | _ => .no
def minD : List D → R Rv
  | [.int i, .int j] => int_ (if j < i then j else i)
  | _ => .no
def intD : List D → R Rv
  | [.int i] => int_ i
  | [.bl k] => int_ (if k then 1 else 0)
  | _ => .no
def boolsOf : List D → R (List Bool)
  | [] => .ok []
  | .bl b :: ds => do let bs ← boolsOf ds; pure (b :: bs)
  | _ => .no
def allD : List D → R Rv
  | [.lst ds] => do let bs ← boolsOf ds; bl_ (bs.all id)
  | _ => .no
def anyD : List D → R Rv
  | [.lst ds] => do let bs ← boolsOf ds; bl_ (bs.any id)
  | _ => .no
def strsOf : List D → R (List (List Nat))
  | [] => .ok []
  | .str b :: ds => do let bs ← strsOf ds; pure (b :: bs)
  | _ => .no
def insS (x : List Nat) : List (List Nat) → List (List Nat)
  | [] => [x]
  | y :: ys => if ltN y x then y :: insS x ys else x :: y :: ys
def sortS : List (List Nat) → List (List Nat)
  | [] => []
  | x :: xs => insS x (sortS xs)
def sortedD : List D → R Rv
  | [.lst ds] => do
    let ss ← strsOf ds
    if ss.length < 64 then .ok (.lst ((sortS ss).map D.str), true) else .no
  | _ => .no
def tupleD : List D → R Rv
  | [.lst ds] => .ok (.tup ds, false)
  | [.tup ds] => .ok (.tup ds, false)
  | _ => .no
def listD : List D → R Rv
  | [.lst ds] => .ok (.lst ds, true)
  | [.tup ds] => .ok (.lst ds, true)
  | [.dic kvs] => .ok (.lst (kvs.map fun kv => kyD kv.1), true)
  | _ => .no
def pairs : List D → R (List (Ky × D))
  | [] => .ok []
  | .tup [k, v] :: ds => do
    let q ← keyOf k
    let r ← pairs ds
    pure ((q, v) :: r)
  | _ => .no
/-- the figures of a number -/
def figs (i : Int) : List Nat := (toString i).toList.map Char.toNat
def strD (own : D → R Rv) : List D → R Rv
  | [.int i] => if i.natAbs.log2 < 1920 then str_ (figs i) else .no
  | [.str s] => str_ s
  | [x] => own x
  | _ => .no
/-! methods -/
def joinS (a : List Nat) : List (List Nat) → List Nat
  | [] => []
  | x :: xs => xs.foldl (fun acc y => acc ++ a ++ y) x
def joinD : D → List D → R Rv
  | .str a, [.lst ds] => do
    let ss ← strsOf ds
    if (ss.map (·.length)).sum + ss.length * a.length ≤ 100000 then str_ (joinS a ss) else .no
  | _, _ => .no
def dgetD : D → D → D → R Rv
  | .dic kvs, .int i, z => .ok ((dget kvs (.inl i)).getD z, false)
  | .dic kvs, .str s, z => .ok ((dget kvs (.inr s)).getD z, false)
  | .dct kvs, .kt ks, z => do
    let k ← keysOf ks
    .ok ((dget kvs k).getD z, false)
  | _, _, _ => .no
/-! changes -/
def appendM : D → List D → R (D × D)
  | .lst xs, [y] => if xs.length < 1000 then .ok (.non, .lst (xs ++ [y])) else .no
  | _, _ => .no
def popM : D → List D → R (D × D)
  | .lst xs, [] => match xs[xs.length - 1]? with
    | some y => .ok (y, .lst xs.dropLast)
    | none => .no
  | .lst xs, [.int i] => if xs.length ≤ 1000 then match ixN xs.length i with
    | some j => match xs[j]? with
      | some y => .ok (y, .lst (xs.eraseIdx j))
      | none => .no
    | none => .no
    else .no
  | _, _ => .no
def putM : D → D → D → R D
  | .lst xs, .int i, v => match ixN xs.length i with
    | some j => .ok (.lst (xs.set j v))
    | none => .no
  | .dic kvs, .int i, v => if kvs.length < 1000 then .ok (.dic (dput kvs (.inl i) v)) else .no
  | .dic kvs, .str s, v => if kvs.length < 1000 then .ok (.dic (dput kvs (.inr s) v)) else .no
  | .dct kvs, .kt ks, v => do
    let k ← keysOf ks
    if kvs.length < 1000 then .ok (.dct (dput kvs k v)) else .no
  | _, _, _ => .no
def fldD (c k : Nat) : D → R Rv
  | .ins c' fs => if c = c' then opt fs[k]? else .no
  | _ => .no
/-! what is walked -/
def items : D → R (List D)
  | .lst ds => .ok ds
  | .fls ds => .ok ds
  | .tup ds => .ok ds
  | .str s => .ok (s.map fun c => .str [c])
  | _ => .no
def iVal (e : Ev) : Iv := fun ρ => do
  let (x, ρ1) ← val e ρ
  let ds ← items x
  pure (ds, ρ1)
def rng (lo : Int) : Nat → List D
  | 0 => []
  | n + 1 => .int lo :: rng (lo + 1) n
def iRange (as : List Ev) : Iv := fun ρ => do
  let (xs, ρ1) ← evs as ρ
  match xs with
  | [.int j] => if -(2 ^ 62) ≤ j ∧ j < 2 ^ 62 then .ok (rng 0 j.toNat, ρ1) else .no
  | [.int i, .int j] => if (-(2 ^ 62) ≤ i ∧ i < 2 ^ 62) ∧ -(2 ^ 62) ≤ j ∧ j < 2 ^ 62 then .ok (rng i (j - i).toNat, ρ1) else .no
  | _ => .no
/-- the keys of the dict at slot i -/
def iKeys (i : Nat) : Iv := fun ρ =>
  match ρ[i]? with
  | some (.sh (.dic kvs)) => .ok (kvs.map fun kv => kyD kv.1, ρ)
  | some (.ow (.dic kvs)) => .ok (kvs.map fun kv => kyD kv.1, ρ.set i (.sh (.dic kvs)))
  | _ => .no
end DY

set_option Elab.async false
set_option linter.all false
set_option maxRecDepth 100000
set_option maxHeartbeats 4000000
/-! ### the operations are those of the model -/
namespace DY
open PySem L2 PySem.Spec PyProof.Rows
variable [Tb]
variable {X : Cx} {A : CT}
theorem szK {n : Nat} (h : n ≤ 100000) : n ≤ sizeLine := by rw [sizeLine_eq]; omega
theorem S_app (a b : List Nat) : S a ++ S b = S (a ++ b) := by
  show (⟨a.toArray ++ b.toArray⟩ : Str) = ⟨(a ++ b).toArray⟩
  simp
theorem S_len (a : List Nat) : (S a).length = a.length := by show a.toArray.size = a.length; simp
theorem S_toList (a : List Nat) : (S a).cps.toList = a := by show a.toArray.toList = a; simp
def rCatF (K : PySem.W.Frag) : R2 := fun x y H Q => ∃ a b xs ys, x = .ref a ∧ y = .ref b ∧ SqT K H a xs ∧ SqT K H b ys ∧ xs.length + ys.length ≤ sizeLine ∧ (xs = [] → Q (.ref b) H) ∧ (xs ≠ [] → ys = [] → Q (.ref a) H) ∧ (xs ≠ [] → ys ≠ [] → ∀ p o, o.dict = none → H p = none → Q (.ref p) (upd H p (.frz o (.tup (xs ++ ys)))))
theorem op_catF : OpR X (binaryOp .Add) (rCatF X.K) := by
  intro pins s σ H x y v u Q I rx ry h
  obtain ⟨a, b, xs, ys, rfl, rfl, ha, hb, hz, q0, q1, q2⟩ := h
  cases rx
  cases ry
  obtain ⟨its, r1, p1, _⟩ := I.tuple ha
  obtain ⟨its2, r2, p2, _⟩ := I.tuple hb
  by_cases hx : xs = []
  · subst hx
    cases r1
    exact cat_tup0 p1 p2 ⟨.ref b, H, I, rfl, q0 rfl⟩
  · refine HT.cat_tup p1 p2 (fun z => hx (r1.nil_iff.mp z)) (fun z => ⟨.ref a, H, I, rfl, q1 hx (r2.nil_iff.mp z)⟩) (fun z => ?_) (by rw [← r1.length, ← r2.length]; exact hz)
    refine ⟨.ref s.heap.objs.size, _, I.laid (t' := s.toks) (o := .frz { cls := .type "tuple", data := .seq (its ++ its2).toArray } (.tup (xs ++ ys))) (fun b ob q => Heap.get?_push_of_some _ q) (Nat.le_refl _) ?_, rfl, q2 hx (fun w => z (r2.nil_iff.mpr w)) _ _ rfl (I.hok.fresh (Nat.le_refl _))⟩
    exact ⟨Heap.get?_push_size _ rfl, by rw [List.length_append]; exact hz, _, r1.append r2, IsTup.new _ _⟩
section
variable {own : D → D → R Rv}
theorem o_add (ho : OpR X (binaryOp .Add) (rD X.K A own)) : OpR X (binaryOp .Add) (rD X.K A (addD own)) := by
  intro pins s σ H x y v u Q I rx ry h
  obtain ⟨G, d1, d2, r, sb, r1, r2, e, k⟩ := id h
  unfold addD at e
  split at e
  · cases r1; cases r2; cases e
    exact op_add pins s σ H _ _ v u Q I rx ry ⟨_, _, rfl, rfl, same_end sb (.int _) k⟩
  · cases r1; cases r2
    rename_i a b
    split at e
    · rename_i q
      cases e
      exact SL.op_addSt pins s σ H _ _ v u Q I rx ry ⟨_, _, rfl, rfl, by rw [S_len, S_len]; exact szK q, by rw [S_app]; exact same_end sb (.str _) k⟩
    · cases e
  · cases r1 with | lst h1 q1 => cases r2 with | lst h2 q2 =>
    split at e
    · rename_i q
      cases e
      refine op_cat pins s σ H _ _ v u Q I rx ry ⟨_, _, _, _, rfl, rfl, sb.lst h1, sb.lst h2, SL.szL (by rw [q1.len, q2.len]; exact q), fun p n => ?_⟩
      obtain ⟨n0, rr⟩ := new_lst (K := X.K) (A := A) sb n (q1.append q2)
      exact k _ _ _ n0 rr
    · cases e
  · obtain ⟨p1, vs1, rfl, h1, q1⟩ := r1.sqT sb
    obtain ⟨p2, vs2, rfl, h2, q2⟩ := r2.sqT sb
    split at e
    · rename_i q
      cases e
      refine op_catF pins s σ H _ _ v u Q I rx ry ⟨_, _, _, _, rfl, rfl, h1, h2, SL.szL (by rw [q1.len, q2.len]; exact q), fun z => ?_, fun _ z => ?_, fun _ _ p o ho n => ?_⟩
      · subst z
        cases q1
        exact same_end sb r2 k
      · subst z
        cases q2
        rw [List.append_nil] at k
        exact same_end sb r1 k
      · obtain ⟨n0, rr⟩ := new_tup (K := X.K) (A := A) sb n ho (q1.append q2)
        exact k _ _ _ n0 (RepR.of rr)
    · cases e
  · exact ho pins s σ H x y v u Q I rx ry ⟨G, d1, d2, r, sb, r1, r2, e, k⟩
theorem o_sub (ho : OpR X (binaryOp .Sub) (rD X.K A own)) : OpR X (binaryOp .Sub) (rD X.K A (subD own)) := by
  intro pins s σ H x y v u Q I rx ry h
  obtain ⟨G, d1, d2, r, sb, r1, r2, e, k⟩ := id h
  unfold subD at e
  split at e
  · cases r1; cases r2; cases e
    exact op_sub pins s σ H _ _ v u Q I rx ry ⟨_, _, rfl, rfl, same_end sb (.int _) k⟩
  · exact ho pins s σ H x y v u Q I rx ry ⟨G, d1, d2, r, sb, r1, r2, e, k⟩
theorem reps_rep {G : Hp} {vs : List V} {ds : List D} (h : Reps X.K A G vs ds) (n : Nat) : Reps X.K A G (List.replicate n vs).flatten (List.replicate n ds).flatten := by
  induction n with
  | zero => exact .nil
  | succ n ih => rw [List.replicate_succ, List.replicate_succ, List.flatten_cons, List.flatten_cons]; exact h.append ih
theorem o_mul (ho : OpR X (binaryOp .Mult) (rD X.K A own)) : OpR X (binaryOp .Mult) (rD X.K A (mulD own)) := by
  intro pins s σ H x y v u Q I rx ry h
  obtain ⟨G, d1, d2, r, sb, r1, r2, e, k⟩ := id h
  unfold mulD at e
  split at e
  · cases r1; cases r2
    split at e
    · rename_i q
      cases e
      exact op_mulW pins s σ H _ _ v u Q I rx ry ⟨_, _, rfl, rfl, (by unfold mulOk at q; unfold CMulW; exact of_decide_eq_true q), same_end sb (.int _) k⟩
    · cases e
  · rename_i a0 k'
    cases r2
    cases r1 with | lst h1 q1 =>
    split at e
    · rename_i q
      cases e
      refine op_rep pins s σ H _ _ v u Q I rx ry ⟨_, _, _, rfl, rfl, sb.lst h1, by omega, by omega, SL.szL (by rw [q1.len]; exact q.2.2), fun p n => ?_⟩
      obtain ⟨n0, rr⟩ := new_lst (K := X.K) (A := A) sb n (reps_rep q1 k'.toNat)
      exact k _ _ _ n0 rr
    · cases e
  · exact ho pins s σ H x y v u Q I rx ry ⟨G, d1, d2, r, sb, r1, r2, e, k⟩
theorem o_no {f : Value → Value → Sem Value} : OpR X f (rD X.K A no2) := by
  intro pins s σ H x y v u Q I rx ry h
  obtain ⟨G, d1, d2, r, sb, r1, r2, e, k⟩ := h
  cases e
end
theorem o_fdiv : OpR X (binaryOp .FloorDiv) (rD X.K A fdivD) := by
  intro pins s σ H x y v u Q I rx ry h
  obtain ⟨G, d1, d2, r, sb, r1, r2, e, k⟩ := id h
  unfold fdivD at e
  split at e
  · cases r1; cases r2
    split at e
    · rename_i q
      cases e
      unfold divOk at q
      rw [Bool.and_eq_true] at q
      exact SL.op_fdivX pins s σ H _ _ v u Q I rx ry ⟨_, _, rfl, rfl, ⟨of_decide_eq_true q.1, of_decide_eq_true q.2⟩, same_end sb (.int _) k⟩
    · cases e
  · cases e
theorem o_mod : OpR X (binaryOp .Mod) (rD X.K A modD) := by
  intro pins s σ H x y v u Q I rx ry h
  obtain ⟨G, d1, d2, r, sb, r1, r2, e, k⟩ := id h
  unfold modD at e
  split at e
  · cases r1; cases r2
    split at e
    · cases e
    · rename_i q
      cases e
      exact op_modN pins s σ H _ _ v u Q I rx ry ⟨_, _, rfl, rfl, q, same_end sb (.int _) k⟩
  · cases e
theorem o_pow : OpR X (binaryOp .Pow) (rD X.K A powD) := by
  intro pins s σ H x y v u Q I rx ry h
  obtain ⟨G, d1, d2, r, sb, r1, r2, e, k⟩ := id h
  unfold powD at e
  split at e
  · cases r1; cases r2
    split at e
    · rename_i q
      cases e
      exact op_pow pins s σ H _ _ v u Q I rx ry ⟨_, _, rfl, rfl, ⟨q.1, by omega, q.2.2⟩, same_end sb (.int _) k⟩
    · cases e
  · cases e
theorem o_neg {own : D → R Rv} (ho : UnR X (unaryOp .USub) (rDu X.K A own)) : UnR X (unaryOp .USub) (rDu X.K A (negD own)) := by
  intro pins s σ H x v Q I rx h
  obtain ⟨G, d1, r, sb, r1, e, k⟩ := id h
  unfold negD at e
  split at e
  · cases r1; cases e
    exact un_neg pins s σ H _ v Q I rx ⟨_, rfl, same_end sb (.int _) k⟩
  · exact ho pins s σ H x v Q I rx ⟨G, d1, r, sb, r1, e, k⟩
theorem o_no1 {f : Value → Sem Value} : UnR X f (rDu X.K A no1) := by
  intro pins s σ H x v Q I rx h
  obtain ⟨G, d1, r, sb, r1, e, k⟩ := h
  cases e
/-! order -/
theorem ltN_eq : ∀ a b : List Nat, ltN a b = decide (a < b)
  | [], [] => by simp [ltN]
  | [], b :: bs => by simp [ltN]
  | a :: as, [] => by simp [ltN]
  | a :: as, b :: bs => by
    unfold ltN
    rw [ltN_eq as bs, Bool.eq_iff_iff]
    simp [List.cons_lt_cons_iff]
theorem o_cmp {op : CmpOp} {f : D → D → R Rv} {gi : Int → Int → Bool} {gs : List Nat → List Nat → Bool} (hf : ∀ x y r, f x y = .ok r → (∃ i j, x = .int i ∧ y = .int j ∧ r = (.bl (gi i j), false)) ∨ ∃ a b, x = .str a ∧ y = .str b ∧ r = (.bl (gs a b), false))
    (hi : OpR X (compareOp op) (rI0 fun i j => .bl (gi i j))) (hs : OpR X (compareOp op) (fun x y H Q => ∃ i j, x = .str i ∧ y = .str j ∧ Q (.bl (gs i.cps.toList j.cps.toList)) H)) : OpR X (compareOp op) (rD X.K A f) := by
  intro pins s σ H x y v u Q I rx ry h
  obtain ⟨G, d1, d2, r, sb, r1, r2, e, k⟩ := h
  rcases hf _ _ _ e with ⟨i, j, rfl, rfl, rfl⟩ | ⟨a, b, rfl, rfl, rfl⟩
  · cases r1; cases r2
    exact hi pins s σ H _ _ v u Q I rx ry ⟨_, _, rfl, rfl, same_end sb (.bl _) k⟩
  · cases r1; cases r2
    refine hs pins s σ H _ _ v u Q I rx ry ⟨_, _, rfl, rfl, ?_⟩
    rw [S_toList, S_toList]
    exact same_end sb (.bl _) k
theorem o_lt : OpR X (compareOp .Lt) (rD X.K A ltD) := o_cmp (gi := fun i j => decide (i < j)) (gs := ltN) (fun x y r e => by
    unfold ltD at e
    split at e
    · cases e; exact .inl ⟨_, _, rfl, rfl, rfl⟩
    · cases e; exact .inr ⟨_, _, rfl, rfl, rfl⟩
    · cases e) op_lt (by
    intro pins s σ H x y v u Q I rx ry ⟨i, j, e1, e2, q⟩
    exact SL.op_ltS pins s σ H x y v u Q I rx ry ⟨i, j, e1, e2, by rw [← ltN_eq]; exact q⟩)
theorem o_le : OpR X (compareOp .LtE) (rD X.K A leD) := o_cmp (gi := fun i j => decide (i ≤ j)) (gs := fun a b => !ltN b a) (fun x y r e => by
    unfold leD at e
    split at e
    · cases e; exact .inl ⟨_, _, rfl, rfl, rfl⟩
    · cases e; exact .inr ⟨_, _, rfl, rfl, rfl⟩
    · cases e) op_le (by
    intro pins s σ H x y v u Q I rx ry ⟨i, j, e1, e2, q⟩
    exact SL.op_leS pins s σ H x y v u Q I rx ry ⟨i, j, e1, e2, by rw [← ltN_eq]; exact q⟩)
theorem o_gt : OpR X (compareOp .Gt) (rD X.K A gtD) := o_cmp (gi := fun i j => decide (j < i)) (gs := fun a b => ltN b a) (fun x y r e => by
    unfold gtD at e
    split at e
    · cases e; exact .inl ⟨_, _, rfl, rfl, rfl⟩
    · cases e; exact .inr ⟨_, _, rfl, rfl, rfl⟩
    · cases e) op_gt (by
    intro pins s σ H x y v u Q I rx ry ⟨i, j, e1, e2, q⟩
    exact SL.op_gtS pins s σ H x y v u Q I rx ry ⟨i, j, e1, e2, by rw [← ltN_eq]; exact q⟩)
theorem o_ge : OpR X (compareOp .GtE) (rD X.K A geD) := o_cmp (gi := fun i j => decide (j ≤ i)) (gs := fun a b => !ltN a b) (fun x y r e => by
    unfold geD at e
    split at e
    · cases e; exact .inl ⟨_, _, rfl, rfl, rfl⟩
    · cases e; exact .inr ⟨_, _, rfl, rfl, rfl⟩
    · cases e) op_ge (by
    intro pins s σ H x y v u Q I rx ry ⟨i, j, e1, e2, q⟩
    exact SL.op_geS pins s σ H x y v u Q I rx ry ⟨i, j, e1, e2, by rw [← ltN_eq]; exact q⟩)
theorem nf_le (x y : D) (r : Rv) (e : leD x y = .ok r) : r.2 = false := by unfold leD at e; split at e <;> cases e <;> rfl
/-! equality -/
mutual
def toP : D → PyData
  | .non => .none
  | .bl b => .bool b
  | .int i => .int i
  | .str l => .str (S l)
  | .tup xs => .tuple (toPs xs)
  | .kt xs => .tuple (toPs xs)
  | .lst xs => .list (toPs xs)
  | .fls xs => .list (toPs xs)
  | _ => .none
def toPs : List D → List PyData
  | [] => []
  | x :: xs => toP x :: toPs xs
end
theorem sok_eq (l : List Nat) : PySem.PyData.strOk (S l) = sok l := by
  unfold PySem.PyData.strOk sok S
  simp
mutual
theorem dok_p : ∀ (n : Nat) (d : D), dok n d = true → (toP d).canLay0 = true ∧ (toP d).depth ≤ n
  | n, .non, _ => ⟨rfl, Nat.zero_le _⟩
  | n, .bl _, _ => ⟨rfl, Nat.zero_le _⟩
  | n, .int _, _ => ⟨rfl, Nat.zero_le _⟩
  | n, .str l, h => ⟨by show PySem.PyData.strOk (S l) = true; rw [sok_eq]; cases n <;> exact h, Nat.zero_le _⟩
  | 0, .tup _, h => by cases h
  | 0, .kt _, h => by cases h
  | 0, .lst _, h => by cases h
  | 0, .fls _, h => by cases h
  | n + 1, .tup xs, h => by
    have := doks_p n xs h
    exact ⟨this.1, Nat.succ_le_succ this.2⟩
  | n + 1, .kt xs, h => by
    have := doks_p n xs h
    exact ⟨this.1, Nat.succ_le_succ this.2⟩
  | n + 1, .lst xs, h => by
    have := doks_p n xs h
    exact ⟨this.1, Nat.succ_le_succ this.2⟩
  | n + 1, .fls xs, h => by
    have := doks_p n xs h
    exact ⟨this.1, Nat.succ_le_succ this.2⟩
  | n, .dic _, h => by cases n <;> cases h
  | n, .dct _, h => by cases n <;> cases h
  | n, .ins _ _, h => by cases n <;> cases h
  | n, .ty _, h => by cases n <;> cases h
  | n, .cls _, h => by cases n <;> cases h
theorem doks_p : ∀ (n : Nat) (ds : List D), doks n ds = true → PyData.canLayAll0 (toPs ds) = true ∧ PyData.depthAll (toPs ds) ≤ n
  | n, [], _ => ⟨rfl, Nat.zero_le _⟩
  | n, x :: xs, h => by
    unfold doks at h
    rw [Bool.and_eq_true] at h
    have h1 := dok_p n x h.1
    have h2 := doks_p n xs h.2
    refine ⟨?_, Nat.max_le.mpr ⟨h1.2, h2.2⟩⟩
    show (PyData.canLay0 (toP x) && PyData.canLayAll0 (toPs xs)) = true
    rw [h1.1, h2.1]; rfl
end
theorem dok_shaped {n : Nat} {d : D} (hn : n ≤ 64) (h : dok n d = true) : SeqAt.shaped (toP d) = true := by
  have := dok_p n d h
  unfold SeqAt.shaped
  rw [this.1, decide_eq_true (Nat.le_trans this.2 hn)]; rfl
section
variable {K : PySem.W.Frag} {G H : Hp}
mutual
theorem rep_dp (sb : Sub G H) : ∀ (n : Nat) (d : D) (v : V), dok n d = true → Rep K A G v d → Dp K H v (toP d)
  | n, .non, _, _, r => by cases r; exact .non
  | n, .bl b, _, _, r => by cases r; exact .bl b
  | n, .int i, _, _, r => by cases r; exact .int i
  | n, .str l, _, _, r => by cases r; exact .str _
  | 0, .tup _, _, h, _ => by cases h
  | 0, .kt _, _, h, _ => by cases h
  | 0, .lst _, _, h, _ => by cases h
  | 0, .fls _, _, h, _ => by cases h
  | n + 1, .tup xs, _, h, r => by obtain ⟨p, vs, rfl, h1, q⟩ := r.sqT sb; exact .tup h1 (reps_dp sb n xs _ h q)
  | n + 1, .kt xs, _, h, r => by obtain ⟨p, vs, rfl, h1, q⟩ := r.sqK sb; exact .tup (SqT.of h1) (reps_dp sb n xs _ h q)
  | n + 1, .lst xs, _, h, r => by cases r with | lst h1 q => exact .lst (SqL.of (sb.lst h1)) (reps_dp sb n xs _ h q)
  | n + 1, .fls xs, _, h, r => by cases r with | fls h1 q => exact .lst (sb.sqL h1) (reps_dp sb n xs _ h q)
  | n, .dic _, _, h, _ => by cases n <;> cases h
  | n, .dct _, _, h, _ => by cases n <;> cases h
  | n, .ins _ _, _, h, _ => by cases n <;> cases h
  | n, .ty _, _, h, _ => by cases n <;> cases h
  | n, .cls _, _, h, _ => by cases n <;> cases h
theorem reps_dp (sb : Sub G H) : ∀ (n : Nat) (ds : List D) (vs : List V), doks n ds = true → Reps K A G vs ds → DpAll K H vs (toPs ds)
  | n, [], _, _, r => by cases r; exact .nil
  | n, x :: xs, _, h, r => by
    unfold doks at h
    rw [Bool.and_eq_true] at h
    cases r with
    | cons a b => exact .cons (rep_dp sb n x _ h.1 a) (reps_dp sb n xs _ h.2 b)
end
end
theorem S_beq (a b : List Nat) : (S a == S b) = (a == b) := by
  rw [Bool.eq_iff_iff, beq_iff_eq, beq_iff_eq]
  exact ⟨S_inj, fun h => by rw [h]⟩
mutual
theorem eqv_p : ∀ (n m : Nat) (x y : D), dok n x = true → dok m y = true → PyData.eqv (toP x) (toP y) = eqv x y
  | n, m, .non, y, _, h => by cases m <;> cases y <;> first | rfl | cases h
  | n, m, .bl _, y, _, h => by cases m <;> cases y <;> first | rfl | cases h
  | n, m, .int _, y, _, h => by cases m <;> cases y <;> first | rfl | cases h
  | n, m, .str a, y, _, h => by
    cases y with
    | str b => show (S a == S b) = (a == b); exact S_beq a b
    | _ => cases m <;> first | rfl | cases h
  | 0, m, .tup _, _, h, _ => by cases h
  | 0, m, .kt _, _, h, _ => by cases h
  | 0, m, .lst _, _, h, _ => by cases h
  | 0, m, .fls _, _, h, _ => by cases h
  | n + 1, m, .tup a, y, h0, h => by
    cases y with
    | tup b => cases m with
      | zero => cases h
      | succ m => exact eqvs_p n m a b h0 h
    | kt b => cases m with
      | zero => cases h
      | succ m => exact eqvs_p n m a b h0 h
    | _ => cases m <;> first | rfl | cases h
  | n + 1, m, .kt a, y, h0, h => by
    cases y with
    | tup b => cases m with
      | zero => cases h
      | succ m => exact eqvs_p n m a b h0 h
    | kt b => cases m with
      | zero => cases h
      | succ m => exact eqvs_p n m a b h0 h
    | _ => cases m <;> first | rfl | cases h
  | n + 1, m, .lst a, y, h0, h => by
    cases y with
    | lst b => cases m with
      | zero => cases h
      | succ m => exact eqvs_p n m a b h0 h
    | fls b => cases m with
      | zero => cases h
      | succ m => exact eqvs_p n m a b h0 h
    | _ => cases m <;> first | rfl | cases h
  | n + 1, m, .fls a, y, h0, h => by
    cases y with
    | lst b => cases m with
      | zero => cases h
      | succ m => exact eqvs_p n m a b h0 h
    | fls b => cases m with
      | zero => cases h
      | succ m => exact eqvs_p n m a b h0 h
    | _ => cases m <;> first | rfl | cases h
  | n, _, .dic _, _, h, _ => by cases n <;> cases h
  | n, _, .dct _, _, h, _ => by cases n <;> cases h
  | n, _, .ins _ _, _, h, _ => by cases n <;> cases h
  | n, _, .ty _, _, h, _ => by cases n <;> cases h
  | n, _, .cls _, _, h, _ => by cases n <;> cases h
theorem eqvs_p : ∀ (n m : Nat) (xs ys : List D), doks n xs = true → doks m ys = true → PyData.eqvAll (toPs xs) (toPs ys) = eqvs xs ys
  | n, m, [], [], _, _ => rfl
  | n, m, [], y :: ys, _, _ => rfl
  | n, m, x :: xs, [], _, _ => rfl
  | n, m, x :: xs, y :: ys, h, h' => by
    unfold doks at h h'
    rw [Bool.and_eq_true] at h h'
    show (PyData.eqv (toP x) (toP y) && PyData.eqvAll (toPs xs) (toPs ys)) = (eqv x y && eqvs xs ys)
    rw [eqv_p n m x y h.1 h'.1, eqvs_p n m xs ys h.2 h'.2]
end
section
variable {own : D → D → R Rv}
theorem o_eqG (hu : X.A.units + 64 < cLine) (ho : OpR X (compareOp .Eq) (rD X.K A own)) : OpR X (compareOp .Eq) (rD X.K A (eqG own)) := by
  intro pins s σ H x y v u Q I rx ry h
  obtain ⟨G, d1, d2, r, sb, r1, r2, e, k⟩ := id h
  unfold eqG at e
  split at e
  · rename_i q
    rw [Bool.and_eq_true] at q
    cases e
    refine op_eqD hu pins s σ H x y v u Q I rx ry ⟨_, _, rep_dp sb _ d1 x q.1 r1, rep_dp sb _ d2 y q.2 r2, dok_shaped (by decide) q.1, dok_shaped (by decide) q.2, ?_⟩
    rw [eqv_p _ _ _ _ q.1 q.2]
    exact same_end sb (.bl _) k
  · exact ho pins s σ H x y v u Q I rx ry ⟨G, d1, d2, r, sb, r1, r2, e, k⟩
theorem o_eq (hu : X.A.units + 64 < cLine) (ho : OpR X (compareOp .Eq) (rD X.K A own)) : OpR X (compareOp .Eq) (rD X.K A (eqD own)) := by
  intro pins s σ H x y v u Q I rx ry h
  obtain ⟨G, d1, d2, r, sb, r1, r2, e, k⟩ := id h
  unfold eqD at e
  split at e
  · cases r1; cases r2; cases e
    exact op_eq pins s σ H _ _ v u Q I rx ry (SL.go_eqI (same_end sb (.bl _) k))
  · rename_i a b
    cases r1; cases r2; cases e
    refine op_eq pins s σ H _ _ v u Q I rx ry (SL.go_eqS ?_)
    have z : decide (S a = S b) = decide (a = b) := by
      by_cases h : a = b
      · rw [h]; simp
      · rw [decide_eq_false h, decide_eq_false fun z => h (S_inj z)]
    rw [z]
    exact same_end sb (.bl _) k
  · cases r1; cases r2; cases e
    exact op_eq pins s σ H _ _ v u Q I rx ry (SL.go_eqB (same_end sb (.bl _) k))
  · exact o_eqG hu ho pins s σ H x y v u Q I rx ry ⟨G, d1, d2, r, sb, r1, r2, e, k⟩
/-- own !=, by what == says -/
def neOf (own : D → D → R Rv) : D → D → R Rv := fun x y => do
  let r ← own x y
  let b ← isB r.1
  bl_ (!b)
theorem o_neG (hu : X.A.units + 64 < cLine) (ho : OpR X (compareOp .NotEq) (rD X.K A (neOf own))) : OpR X (compareOp .NotEq) (rD X.K A (neG own)) := by
  intro pins s σ H x y v u Q I rx ry h
  obtain ⟨G, d1, d2, r, sb, r1, r2, e, k⟩ := id h
  unfold neG at e
  split at e
  · rename_i q
    rw [Bool.and_eq_true] at q
    cases e
    refine op_neD hu pins s σ H x y v u Q I rx ry ⟨_, _, rep_dp sb _ d1 x q.1 r1, rep_dp sb _ d2 y q.2 r2, dok_shaped (by decide) q.1, dok_shaped (by decide) q.2, ?_⟩
    rw [eqv_p _ _ _ _ q.1 q.2]
    exact same_end sb (.bl _) k
  · exact ho pins s σ H x y v u Q I rx ry ⟨G, d1, d2, r, sb, r1, r2, e, k⟩
theorem o_ne (hu : X.A.units + 64 < cLine) (ho : OpR X (compareOp .NotEq) (rD X.K A (neOf own))) : OpR X (compareOp .NotEq) (rD X.K A (neD own)) := by
  intro pins s σ H x y v u Q I rx ry h
  obtain ⟨G, d1, d2, r, sb, r1, r2, e, k⟩ := id h
  unfold neD at e
  split at e
  · cases r1; cases r2; cases e
    exact op_ne pins s σ H _ _ v u Q I rx ry (SL.go_neI (same_end sb (.bl _) k))
  · rename_i a b
    cases r1; cases r2; cases e
    refine op_ne pins s σ H _ _ v u Q I rx ry (SL.go_neS ?_)
    have z : decide (S a = S b) = decide (a = b) := by
      by_cases h : a = b
      · rw [h]; simp
      · rw [decide_eq_false h, decide_eq_false fun z => h (S_inj z)]
    rw [z]
    exact same_end sb (.bl _) k
  · cases r1; cases r2; cases e
    exact op_ne pins s σ H _ _ v u Q I rx ry (SL.go_neB (same_end sb (.bl _) k))
  · exact o_neG hu ho pins s σ H x y v u Q I rx ry ⟨G, d1, d2, r, sb, r1, r2, e, k⟩
end
theorem o_noNe : OpR X (compareOp .NotEq) (rD X.K A (neOf no2)) := by
  intro pins s σ H x y v u Q I rx ry h
  obtain ⟨G, d1, d2, r, sb, r1, r2, e, k⟩ := h
  cases e
theorem o_isN : OpR X (compareOp .Is) (rD X.K A isN) := by
  intro pins s σ H x y v u Q I rx ry h
  obtain ⟨G, d1, d2, r, sb, r1, r2, e, k⟩ := h
  unfold isN at e
  split at e
  · cases e
  · cases r1; cases r2; cases e
    exact op_isN pins s σ H _ _ v u Q I rx ry ⟨rfl, same_end sb (.bl _) k⟩
  · rename_i na n
    cases r2; cases e
    refine op_isN pins s σ H _ _ v u Q I rx ry ⟨rfl, ?_⟩
    rw [decide_eq_false (fun z => by subst z; cases r1 <;> first | exact n rfl | exact na rfl)]
    exact same_end sb (.bl _) k
  · cases e
end DY

set_option Elab.async false
set_option linter.all false
set_option maxRecDepth 100000
set_option maxHeartbeats 4000000
namespace DY
open PySem L2 PySem.Spec PyProof.Rows
variable [Tb]
section
variable {K : PySem.W.Frag} {A : CT} {G G' H H' : Hp} {Q : VK}
/-! dicts -/
theorem RepK.val {kvs : List (Key × V)} {ds : List (Ky × D)} (h : RepK K A G kvs ds) (k : Ky) : (∃ d v, dget ds k = some d ∧ valV kvs (kK k) = some v ∧ Rep K A G v d) ∨ (dget ds k = none ∧ valV kvs (kK k) = none) := by
  induction ds generalizing kvs with
  | nil => cases h; exact .inr ⟨rfl, rfl⟩
  | cons p ds ih =>
    cases h with
    | @cons q v d vs _ a b =>
      by_cases e : q = k
      · subst e
        exact .inl ⟨d, v, by unfold dget; simp, valV_pos (p := (kK q, v)) rfl, a⟩
      · have e' : ¬ kK q = kK k := fun z => e (kK_inj z)
        rcases ih b with ⟨d', v', h1, h2, h3⟩ | ⟨h1, h2⟩
        · exact .inl ⟨d', v', by unfold dget at *; simpa [e] using h1, by rw [valV_neg (p := (kK q, v)) e']; exact h2, h3⟩
        · exact .inr ⟨by unfold dget at *; simpa [e] using h1, by rw [valV_neg (p := (kK q, v)) e']; exact h2⟩
theorem map_kK_inj {a b : List Ky} (h : a.map kK = b.map kK) : a = b := List.map_inj_right (fun _ _ z => kK_inj z) |>.mp h
theorem RepT.val {kvs : List (List Key × V)} {ds : List (List Ky × D)} (h : RepT K A G kvs ds) (k : List Ky) : (∃ d v, dget ds k = some d ∧ valV kvs (k.map kK) = some v ∧ Rep K A G v d) ∨ (dget ds k = none ∧ valV kvs (k.map kK) = none) := by
  induction ds generalizing kvs with
  | nil => cases h; exact .inr ⟨rfl, rfl⟩
  | cons p ds ih =>
    cases h with
    | @cons q v d vs _ a b =>
      by_cases e : q = k
      · subst e
        exact .inl ⟨d, v, by unfold dget; simp, valV_pos (p := (q.map kK, v)) rfl, a⟩
      · have e' : ¬ q.map kK = k.map kK := fun z => e (map_kK_inj z)
        rcases ih b with ⟨d', v', h1, h2, h3⟩ | ⟨h1, h2⟩
        · exact .inl ⟨d', v', by unfold dget at *; simpa [e] using h1, by rw [valV_neg (p := (q.map kK, v)) e']; exact h2, h3⟩
        · exact .inr ⟨by unfold dget at *; simpa [e] using h1, by rw [valV_neg (p := (q.map kK, v)) e']; exact h2⟩
theorem RepK.len {kvs : List (Key × V)} {ds : List (Ky × D)} (h : RepK K A G kvs ds) : kvs.length = ds.length := by
  induction ds generalizing kvs with
  | nil => cases h; rfl
  | cons p ds ih => cases h with | cons a b => rw [List.length_cons, List.length_cons, ih b]
theorem RepT.len {kvs : List (List Key × V)} {ds : List (List Ky × D)} (h : RepT K A G kvs ds) : kvs.length = ds.length := by
  induction ds generalizing kvs with
  | nil => cases h; rfl
  | cons p ds ih => cases h with | cons a b => rw [List.length_cons, List.length_cons, ih b]
theorem RepK.any {kvs : List (Key × V)} {ds : List (Ky × D)} (h : RepK K A G kvs ds) (k : Ky) : (kvs.any fun kv => decide (kv.1 = kK k)) = (ds.any fun kv => decide (kv.1 = k)) := by
  induction ds generalizing kvs with
  | nil => cases h; rfl
  | cons p ds ih =>
    cases h with
    | @cons q v d vs _ a b =>
      rw [List.any_cons, List.any_cons, ih b]
      congr 1
      by_cases e : q = k
      · subst e; simp
      · rw [decide_eq_false e, decide_eq_false fun z => e (kK_inj z)]
theorem RepK.repl {kvs : List (Key × V)} {ds : List (Ky × D)} (h : RepK K A G kvs ds) (k : Ky) {v : V} {d : D} (r : Rep K A G v d) : RepK K A G (kvs.map fun kv => if kv.1 = kK k then (kv.1, v) else kv) (ds.map fun kv => if kv.1 = k then (kv.1, d) else kv) := by
  induction ds generalizing kvs with
  | nil => cases h; exact .nil
  | cons p ds ih =>
    cases h with
    | @cons q v' d' vs _ a b =>
      rw [List.map_cons, List.map_cons]
      by_cases e : q = k
      · rw [if_pos (congrArg kK e), if_pos e]; exact .cons r (ih b)
      · rw [if_neg fun z => e (kK_inj z), if_neg e]; exact .cons a (ih b)
theorem RepK.append {kvs ks : List (Key × V)} {ds es : List (Ky × D)} (h : RepK K A G kvs ds) (h' : RepK K A G ks es) : RepK K A G (kvs ++ ks) (ds ++ es) := by
  induction ds generalizing kvs with
  | nil => cases h; exact h'
  | cons p ds ih => cases h with | cons a b => exact .cons a (ih b)
theorem RepK.put {kvs : List (Key × V)} {ds : List (Ky × D)} (h : RepK K A G kvs ds) (k : Ky) {v : V} {d : D} (r : Rep K A G v d) : RepK K A G (putK kvs (kK k) v) (dput ds k d) := by
  unfold putK dput
  rw [h.any]
  split
  · exact h.repl k r
  · exact h.append (.cons r .nil)
theorem RepT.any {kvs : List (List Key × V)} {ds : List (List Ky × D)} (h : RepT K A G kvs ds) (k : List Ky) : (kvs.any fun kv => decide (kv.1 = k.map kK)) = (ds.any fun kv => decide (kv.1 = k)) := by
  induction ds generalizing kvs with
  | nil => cases h; rfl
  | cons p ds ih =>
    cases h with
    | @cons q v d vs _ a b =>
      rw [List.any_cons, List.any_cons, ih b]
      congr 1
      by_cases e : q = k
      · subst e; simp
      · rw [decide_eq_false e, decide_eq_false fun z => e (map_kK_inj z)]
theorem RepT.repl {kvs : List (List Key × V)} {ds : List (List Ky × D)} (h : RepT K A G kvs ds) (k : List Ky) {v : V} {d : D} (r : Rep K A G v d) : RepT K A G (kvs.map fun kv => if kv.1 = k.map kK then (kv.1, v) else kv) (ds.map fun kv => if kv.1 = k then (kv.1, d) else kv) := by
  induction ds generalizing kvs with
  | nil => cases h; exact .nil
  | cons p ds ih =>
    cases h with
    | @cons q v' d' vs _ a b =>
      rw [List.map_cons, List.map_cons]
      by_cases e : q = k
      · rw [if_pos (congrArg (List.map kK) e), if_pos e]; exact .cons r (ih b)
      · rw [if_neg fun z => e (map_kK_inj z), if_neg e]; exact .cons a (ih b)
theorem RepT.append {kvs ks : List (List Key × V)} {ds es : List (List Ky × D)} (h : RepT K A G kvs ds) (h' : RepT K A G ks es) : RepT K A G (kvs ++ ks) (ds ++ es) := by
  induction ds generalizing kvs with
  | nil => cases h; exact h'
  | cons p ds ih => cases h with | cons a b => exact .cons a (ih b)
theorem RepT.put {kvs : List (List Key × V)} {ds : List (List Ky × D)} (h : RepT K A G kvs ds) (k : List Ky) {v : V} {d : D} (r : Rep K A G v d) : RepT K A G (putK kvs (k.map kK) v) (dput ds k d) := by
  unfold putK dput
  rw [h.any]
  split
  · exact h.repl k r
  · exact h.append (.cons r .nil)
theorem keyOf_rep {v : V} {d : D} {k : Ky} (r : Rep K A G v d) (e : keyOf d = .ok k) : v = kV (kK k) ∧ d = kyD k := by
  unfold keyOf at e
  split at e
  · cases r; cases e; exact ⟨rfl, rfl⟩
  · cases r; cases e; exact ⟨rfl, rfl⟩
  · cases e
theorem keysOf_rep {ds : List D} {ks : List Ky} {vs : List V} (r : Reps K A G vs ds) (e : keysOf ds = .ok ks) : vs = (ks.map kK).map kV ∧ ds ≠ [] := by
  induction ds generalizing vs ks with
  | nil => cases e
  | cons d ds ih =>
    cases r with
    | cons a b =>
      refine ⟨?_, fun z => nomatch z⟩
      cases ds with
      | nil =>
        cases b
        obtain ⟨k, e1, e⟩ := bind_ok e
        cases e
        rw [(keyOf_rep a e1).1]; rfl
      | cons d' ds =>
        obtain ⟨k, e1, e⟩ := bind_ok e
        obtain ⟨ks', e2, e⟩ := bind_ok e
        cases e
        rw [List.map_cons, List.map_cons, ← (ih b e2).1, (keyOf_rep a e1).1]
theorem key_tup {v : V} {ds : List D} {ks : List Ky} (r : Rep K A G v (.kt ds)) (e : keysOf ds = .ok ks) (s : Sub G H) : ∃ b, v = .ref b ∧ H b = some (.tup ((ks.map kK).map kV)) := by
  obtain ⟨p, vs, rfl, h, q⟩ := r.sqK s
  rw [(keysOf_rep q e).1] at h
  exact ⟨p, rfl, h⟩
theorem kyD_rep (k : Ky) : Rep K A G (kV (kK k)) (kyD k) := by
  cases k with
  | inl i => exact .int i
  | inr l => exact .str l
/-! a value, or an own object that is looked at -/
def RepB (K : PySem.W.Frag) (A : CT) (G H : Hp) (x : V) (d : D) : Prop := Rep K A G x d ∨ ∃ p, x = .ref p ∧ G p = none ∧ Has K A G H p d
theorem RepB.lst {x : V} {ds : List D} (s : Sub G H) (h : RepB K A G H x (.lst ds)) : ∃ p vs, x = .ref p ∧ H p = some (.lst vs) ∧ Reps K A G vs ds := by
  rcases h with h | ⟨p, e, _, vs, h1, h2⟩
  · cases h with | lst h1 h2 => exact ⟨_, _, rfl, s.lst h1, h2⟩
  · exact ⟨p, vs, e, h1, h2⟩
theorem RepB.dic {x : V} {ds : List (Ky × D)} (s : Sub G H) (h : RepB K A G H x (.dic ds)) : ∃ p kvs, x = .ref p ∧ Rd H p (.dK kvs) ∧ RepK K A G kvs ds := by
  rcases h with h | ⟨p, e, _, vs, h1, h2⟩
  · cases h with | dic h1 h2 => exact ⟨_, _, rfl, s.dK h1, h2⟩
  · exact ⟨p, vs, e, .inl h1, h2⟩
theorem RepB.dct {x : V} {ds : List (List Ky × D)} (s : Sub G H) (h : RepB K A G H x (.dct ds)) : ∃ p kvs, x = .ref p ∧ Rd H p (.dT kvs) ∧ RepT K A G kvs ds := by
  rcases h with h | ⟨p, e, _, vs, h1, h2⟩
  · cases h with | dct h1 h2 => exact ⟨_, _, rfl, s.dT h1, h2⟩
  · exact ⟨p, vs, e, .inl h1, h2⟩
theorem RepB.tup {x : V} {ds : List D} (s : Sub G H) (h : RepB K A G H x (.tup ds)) : ∃ p vs, x = .ref p ∧ SqT K H p vs ∧ Reps K A G vs ds := by
  rcases h with h | ⟨p, e, _, h⟩
  · exact h.sqT s
  · exact h.elim
theorem RepB.fls {x : V} {ds : List D} (s : Sub G H) (h : RepB K A G H x (.fls ds)) : ∃ p vs, x = .ref p ∧ SqL K H p vs ∧ Reps K A G vs ds := by
  rcases h with h | ⟨p, e, _, h⟩
  · cases h with | fls h1 h2 => exact ⟨_, _, rfl, s.sqL h1, h2⟩
  · exact h.elim
theorem RepB.str {x : V} {l : List Nat} (h : RepB K A G H x (.str l)) : x = .str (S l) := by
  rcases h with h | ⟨p, e, _, h⟩
  · cases h; rfl
  · exact h.elim
variable (K A) in
def rDb (f : D → D → R Rv) : R2 := fun x y H Q => ∃ G d1 d2 d, Sub G H ∧ RepB K A G H x d1 ∧ Rep K A G y d2 ∧ f d1 d2 = .ok (d, false) ∧ ∀ v, Rep K A G v d → Q v H
variable (K A) in
def rDc (f : D → D → R Rv) : R2 := fun x y H Q => ∃ G d1 d2 d, Sub G H ∧ Rep K A G x d1 ∧ RepB K A G H y d2 ∧ f d1 d2 = .ok (d, false) ∧ ∀ v, Rep K A G v d → Q v H
variable (K A) in
def rDb1 (f : D → R Rv) : List V → Hp → VK → Prop := fun xs H Q => ∃ G x d1 d, xs = [x] ∧ Sub G H ∧ RepB K A G H x d1 ∧ f d1 = .ok (d, false) ∧ ∀ v, Rep K A G v d → Q v H
theorem rD_b {f : D → D → R Rv} {x y : V} (nf : ∀ x y r, f x y = .ok r → r.2 = false) (h : rD K A f x y H Q) : rDb K A f x y H Q := by
  obtain ⟨G, d1, d2, ⟨d, b⟩, sb, r1, r2, e, k⟩ := h
  obtain rfl : b = false := nf _ _ _ e
  exact ⟨G, d1, d2, d, sb, .inl r1, r2, e, fun v r => k v G H (Nx0.refl sb) (RepR.of r)⟩
theorem rD_c {f : D → D → R Rv} {x y : V} (nf : ∀ x y r, f x y = .ok r → r.2 = false) (h : rD K A f x y H Q) : rDc K A f x y H Q := by
  obtain ⟨G, d1, d2, ⟨d, b⟩, sb, r1, r2, e, k⟩ := h
  obtain rfl : b = false := nf _ _ _ e
  exact ⟨G, d1, d2, d, sb, r1, .inl r2, e, fun v r => k v G H (Nx0.refl sb) (RepR.of r)⟩
theorem opt_ok {o : Option D} {d : D} {b : Bool} (h : opt o = .ok (d, b)) : o = some d ∧ b = false := by
  unfold opt at h
  split at h
  · cases h; exact ⟨rfl, rfl⟩
  · cases h
theorem nf_ix (x y : D) (r : Rv) (e : ixD x y = .ok r) : r.2 = false := by
  obtain ⟨d, b⟩ := r
  unfold ixD at e
  split at e
  · exact (opt_ok e).2
  · exact (opt_ok e).2
  · exact (opt_ok e).2
  · split at e
    · exact (opt_ok e).2
    · cases e
  · exact (opt_ok e).2
  · exact (opt_ok e).2
  · obtain ⟨_, _, e⟩ := bind_ok e; exact (opt_ok e).2
  · cases e
theorem nf_in (x y : D) (r : Rv) (e : inD x y = .ok r) : r.2 = false := by
  obtain ⟨_, _, e⟩ := bind_ok e
  cases e; rfl
theorem nf_nin (x y : D) (r : Rv) (e : ninD x y = .ok r) : r.2 = false := by
  obtain ⟨_, _, e⟩ := bind_ok e
  cases e; rfl
theorem atI_rep {vs : List V} {ds : List D} {i : Int} {d : D} (r : Reps K A G vs ds) (e : DY.atI ds i = some d) : ∃ v, L2.atI vs i = some v ∧ Rep K A G v d := by
  unfold DY.atI at e
  unfold L2.atI
  rw [r.len]
  obtain ⟨j, h1, h2⟩ := Option.bind_eq_some_iff.mp e
  obtain ⟨v, h3, h4⟩ := r.get' h2
  exact ⟨v, Option.bind_eq_some_iff.mpr ⟨j, h1, h3⟩, h4⟩
end
variable {X : Cx} {A : CT}
/-- d[y] by values -/
theorem ix_dict (hu : X.A.units + 1 < cLine) : IxR X (fun x y H Q => ∃ a v, x = .ref a ∧ DGet H a y (some v) ∧ Q v H) := by
  intro value slice pins s σ H x y v u Q I rx ry h hs
  obtain ⟨a, w, rfl, g, q⟩ := h
  obtain rfl : v = Value.ref a := rx
  have hT := dict_typeIs I g
  unfold subscriptTail
  refine wpAny_bind ?_
  rw [getitemInPython_of_ne hT.not_modules]
  refine wpAny_bind (wpAny_specialOf hT PySem.F.slot_dict_getitem.lookup ?_)
  have fin : wpAny (model X.prog X.w) X.A (subscripted slice false (.ref a) u) (fun r s₃ => wpAny (model X.prog X.w) X.A (letTemporaryGo value (.ref a) r >>= fun _ => pure r) (EP X pins σ Q) X.xe s₃) X.xe s := by
    rw [hs]
    exact wpAny_operating (d_getItem hu I g ry fun w' s3 I3 rw' => wpAny_bind (wpAny_letTemporaryGo (wpAny_pure ⟨w, H, I3, rw', q⟩)))
  first
    | exact wpAny_pure (wpAny_bind fin)
    | exact wpAny_bind (wpAny_pure (wpAny_bind fin))
    | exact wpAny_bind fin
theorem DGet.kr {H : Hp} {a : Addr} {kvs : List (Key × V)} {k : Key} (e : Rd H a (.dK kvs)) : DGet H a (kV k) (valV kvs k) := .inl ⟨kvs, k, e, rfl, rfl⟩
theorem DGet.tr {H : Hp} {a b : Addr} {kvs : List (List Key × V)} {k : List Key} (e : Rd H a (.dT kvs)) (eb : H b = some (.tup (k.map kV))) : DGet H a (.ref b) (valV kvs k) := .inr ⟨kvs, k, b, e, rfl, eb, rfl⟩
theorem o_ixb (hu : X.A.units + 1 < cLine) : IxR X (rDb X.K A ixD) := by
  intro value slice pins s σ H x y v u Q I rx ry h hs
  obtain ⟨G, d1, d2, d, sb, r1, r2, e, k⟩ := h
  unfold ixD at e
  split at e
  · cases r2
    obtain ⟨p, vs, rfl, h1, q1⟩ := r1.lst sb
    obtain ⟨w, h2, h3⟩ := atI_rep q1 (opt_ok e).1
    exact ix_list value slice pins s σ H _ _ v u Q I rx ry ⟨p, vs, _, w, rfl, rfl, SqL.of h1, h2, k _ h3⟩ hs
  · cases r2
    obtain ⟨p, vs, rfl, h1, q1⟩ := r1.fls sb
    obtain ⟨w, h2, h3⟩ := atI_rep q1 (opt_ok e).1
    exact ix_list value slice pins s σ H _ _ v u Q I rx ry ⟨p, vs, _, w, rfl, rfl, h1, h2, k _ h3⟩ hs
  · cases r2
    obtain ⟨p, vs, rfl, h1, q1⟩ := r1.tup sb
    obtain ⟨w, h2, h3⟩ := atI_rep q1 (opt_ok e).1
    exact ix_tup value slice pins s σ H _ _ v u Q I rx ry ⟨p, vs, _, w, rfl, rfl, h1, h2, k _ h3⟩ hs
  · cases r2
    obtain rfl := r1.str
    split at e
    · rename_i q
      obtain ⟨c, h1, h2⟩ := Option.map_eq_some_iff.mp (opt_ok e).1
      subst h2
      exact ix_str value slice pins s σ H _ _ v u Q I rx ry ⟨_, _, c, rfl, rfl, by rw [S_len]; exact szK q, by rw [S_toList]; exact h1, k _ (.str [c])⟩ hs
    · cases e
  · cases r2
    rename_i kvs i
    obtain ⟨p, k', rfl, h1, q1⟩ := r1.dic sb
    rcases q1.val (.inl i) with ⟨d', w, h2, h3, h4⟩ | ⟨h2, h3⟩
    · rw [h2] at e
      obtain ⟨e, _⟩ := opt_ok e
      cases e
      exact ix_dict hu value slice pins s σ H _ _ v u Q I rx ry ⟨p, w, rfl, h3 ▸ DGet.kr (k := .inl i) h1, k _ h4⟩ hs
    · rw [h2] at e; cases e
  · cases r2
    rename_i kvs l
    obtain ⟨p, k', rfl, h1, q1⟩ := r1.dic sb
    rcases q1.val (.inr l) with ⟨d', w, h2, h3, h4⟩ | ⟨h2, h3⟩
    · rw [h2] at e
      obtain ⟨e, _⟩ := opt_ok e
      cases e
      exact ix_dict hu value slice pins s σ H _ _ v u Q I rx ry ⟨p, w, rfl, h3 ▸ DGet.kr (k := .inr (S l)) h1, k _ h4⟩ hs
    · rw [h2] at e; cases e
  · rename_i kvs ks
    obtain ⟨kk, e0, e⟩ := bind_ok e
    obtain ⟨p, k', rfl, h1, q1⟩ := r1.dct sb
    obtain ⟨b, rfl, hb⟩ := key_tup r2 e0 sb
    rcases q1.val kk with ⟨d', w, h2, h3, h4⟩ | ⟨h2, h3⟩
    · rw [h2] at e
      obtain ⟨e, _⟩ := opt_ok e
      cases e
      exact ix_dict hu value slice pins s σ H _ _ v u Q I rx ry ⟨p, w, rfl, h3 ▸ DGet.tr h1 hb, k _ h4⟩ hs
    · rw [h2] at e; cases e
  · cases e
theorem o_ix (hu : X.A.units + 1 < cLine) : IxR X (rD X.K A ixD) := fun value slice pins s σ H x y v u Q I rx ry h hs => o_ixb hu value slice pins s σ H x y v u Q I rx ry (rD_b nf_ix h) hs
/-! in -/
theorem flat_eq {K : PySem.W.Frag} {G : Hp} {v w : V} {d e : D} (r : Rep K A G v d) (r' : Rep K A G w e) (f : flat d = true) (f' : flat e = true) : eqV v w = eqv d e := by
  cases r <;> first | (cases f; done) | (cases r' <;> first | (cases f'; done) | rfl | exact S_beq _ _)
theorem flat_v {K : PySem.W.Frag} {G : Hp} {v : V} {d : D} (r : Rep K A G v d) (f : flat d = true) : flatV v = true := by
  cases r <;> first | (cases f; done) | rfl
theorem flat_all {K : PySem.W.Frag} {G : Hp} {vs : List V} {ds : List D} (r : Reps K A G vs ds) (f : ds.all flat = true) : vs.all flatV = true := by
  induction ds generalizing vs with
  | nil => cases r; rfl
  | cons d ds ih =>
    cases r with
    | cons a b =>
      rw [List.all_cons, Bool.and_eq_true] at f
      rw [List.all_cons, flat_v a f.1, ih b f.2]; rfl
theorem flat_any {K : PySem.W.Frag} {G : Hp} {vs : List V} {ds : List D} {w : V} {e : D} (r : Reps K A G vs ds) (f : ds.all flat = true) (r' : Rep K A G w e) (f' : flat e = true) : inV w vs = ds.any fun z => eqv z e := by
  unfold inV
  induction ds generalizing vs with
  | nil => cases r; rfl
  | cons d ds ih =>
    cases r with
    | cons a b =>
      rw [List.all_cons, Bool.and_eq_true] at f
      rw [List.any_cons, List.any_cons, ih b f.2, flat_eq a r' f.1 f']
theorem any_p {n m : Nat} {x : D} (hx : dok m x = true) : ∀ {ds : List D}, doks n ds = true → ((toPs ds).any fun z => PyData.eqv z (toP x)) = ds.any fun z => eqv z x
  | [], _ => rfl
  | d :: ds, h => by
    unfold doks at h
    rw [Bool.and_eq_true] at h
    show (PyData.eqv (toP d) (toP x) || (toPs ds).any fun z => PyData.eqv z (toP x)) = (eqv d x || ds.any fun z => eqv z x)
    rw [eqv_p n m d x h.1 hx, any_p hx h.2]
theorem doks_shaped {n : Nat} {ds : List D} (hn : n < 64) (h : doks n ds = true) : SeqAt.shaped (.list (toPs ds)) = true := dok_shaped (n := n + 1) (d := .lst ds) (by omega) h
/-- what the two rules share -/
theorem inB_use {op : CmpOp} {g : Bool → Bool} (hu : X.A.units + 65 < cLine)
    (h1 : OpR X (compareOp op) (fun x y H Q => ∃ (c : Nat) (z : Str), x = .str ⟨#[c]⟩ ∧ y = .str z ∧ Q (.bl (g (decide (c ∈ z.cps.toList)))) H))
    (h2 : OpR X (compareOp op) (fun y x H Q => ∃ a o, x = .ref a ∧ DGet H a y o ∧ Q (.bl (g o.isSome)) H))
    (h3 : OpR X (compareOp op) (fun x y H Q => ∃ p xs, y = .ref p ∧ (SqL X.K H p xs ∨ SqT X.K H p xs) ∧ flatV x = true ∧ xs.all flatV = true ∧ Q (.bl (g (inV x xs))) H))
    (h4 : OpR X (compareOp op) (fun x y H Q => ∃ d ds, Dp X.K H x d ∧ Dp X.K H y (.list ds) ∧ SeqAt.shaped d = true ∧ SeqAt.shaped (.list ds) = true ∧ Q (.bl (g (ds.any fun z => PyData.eqv z d))) H)) :
    OpR X (compareOp op) (rDc X.K A (fun x y => do let b ← inB x y; bl_ (g b))) := by
  intro pins s σ H x y v u Q I rx ry h
  obtain ⟨G, d1, d2, d, sb, r1, r2, e, k⟩ := h
  obtain ⟨b, e1, e'⟩ := bind_ok e
  cases e'
  clear e
  have e := e1
  clear e1
  unfold inB at e
  split at e
  · cases r1
    obtain rfl := r2.str
    cases e
    exact h1 pins s σ H _ _ v u Q I rx ry ⟨_, _, rfl, rfl, by rw [S_toList]; exact k _ (.bl _)⟩
  · cases r1
    rename_i i kvs
    obtain ⟨p, k', rfl, q0, q1⟩ := r2.dic sb
    cases e
    refine h2 pins s σ H _ _ v u Q I rx ry ⟨p, _, rfl, DGet.kr (k := .inl i) q0, ?_⟩
    rcases q1.val (.inl i) with ⟨d', w, h2, h3, h4⟩ | ⟨h2, h3⟩
    · rw [show valV k' (.inl i) = some w from h3]; rw [h2] at k; exact k _ (.bl _)
    · rw [show valV k' (.inl i) = none from h3]; rw [h2] at k; exact k _ (.bl _)
  · cases r1
    rename_i l kvs
    obtain ⟨p, k', rfl, q0, q1⟩ := r2.dic sb
    cases e
    refine h2 pins s σ H _ _ v u Q I rx ry ⟨p, _, rfl, DGet.kr (k := .inr (S l)) q0, ?_⟩
    rcases q1.val (.inr l) with ⟨d', w, h2, h3, h4⟩ | ⟨h2, h3⟩
    · rw [show valV k' (.inr (S l)) = some w from h3]; rw [h2] at k; exact k _ (.bl _)
    · rw [show valV k' (.inr (S l)) = none from h3]; rw [h2] at k; exact k _ (.bl _)
  · rename_i ks kvs
    obtain ⟨kk, e0, e⟩ := bind_ok e
    cases e
    obtain ⟨p, k', rfl, q0, q1⟩ := r2.dct sb
    obtain ⟨b, rfl, hb⟩ := key_tup r1 e0 sb
    refine h2 pins s σ H _ _ v u Q I rx ry ⟨p, _, rfl, DGet.tr q0 hb, ?_⟩
    rcases q1.val kk with ⟨d', w, h2, h3, h4⟩ | ⟨h2, h3⟩
    · rw [h3]; rw [h2] at k; exact k _ (.bl _)
    · rw [h3]; rw [h2] at k; exact k _ (.bl _)
  · obtain ⟨p, vs, rfl, q0, q1⟩ := r2.tup sb
    split at e
    · rename_i q
      rw [Bool.and_eq_true] at q
      cases e
      exact h3 pins s σ H _ _ v u Q I rx ry ⟨p, vs, rfl, .inr q0, flat_v r1 q.1, flat_all q1 q.2, by rw [flat_any q1 q.2 r1 q.1]; exact k _ (.bl _)⟩
    · cases e
  · obtain ⟨p, vs, rfl, q0, q1⟩ := r2.lst sb
    split at e
    · rename_i q
      rw [Bool.and_eq_true] at q
      cases e
      exact h4 pins s σ H _ _ v u Q I rx ry ⟨_, _, rep_dp sb _ _ _ q.1 r1, .lst (SqL.of q0) (reps_dp sb _ _ _ q.2 q1), dok_shaped (by decide) q.1, doks_shaped (by decide) q.2, by rw [any_p q.1 q.2]; exact k _ (.bl _)⟩
    · cases e
  · obtain ⟨p, vs, rfl, q0, q1⟩ := r2.fls sb
    split at e
    · rename_i q
      rw [Bool.and_eq_true] at q
      cases e
      exact h4 pins s σ H _ _ v u Q I rx ry ⟨_, _, rep_dp sb _ _ _ q.1 r1, .lst q0 (reps_dp sb _ _ _ q.2 q1), dok_shaped (by decide) q.1, doks_shaped (by decide) q.2, by rw [any_p q.1 q.2]; exact k _ (.bl _)⟩
    · cases e
  · cases e
theorem op_dIn (hu : X.A.units + 1 < cLine) : OpR X (compareOp .In) (fun y x H Q => ∃ a o, x = .ref a ∧ DGet H a y o ∧ Q (.bl o.isSome) H) := by
  intro pins s σ H x y v u Q I rx ry ⟨a, o, e, g, q⟩
  subst e
  obtain rfl : u = Value.ref a := ry
  exact d_in hu I g rx fun s3 I3 => ⟨.bl o.isSome, H, I3, rfl, q⟩
theorem op_dNotIn (hu : X.A.units + 1 < cLine) : OpR X (compareOp .NotIn) (fun y x H Q => ∃ a o, x = .ref a ∧ DGet H a y o ∧ Q (.bl (!o.isSome)) H) := by
  intro pins s σ H x y v u Q I rx ry ⟨a, o, e, g, q⟩
  subst e
  obtain rfl : u = Value.ref a := ry
  exact d_notIn hu I g rx fun s3 I3 => ⟨.bl (!o.isSome), H, I3, rfl, q⟩
theorem o_inc (hu : X.A.units + 65 < cLine) : OpR X (compareOp .In) (rDc X.K A inD) := inB_use (g := id) hu op_in_sign (op_dIn (by omega)) op_in_seq (op_inD hu)
theorem o_ninc (hu : X.A.units + 65 < cLine) : OpR X (compareOp .NotIn) (rDc X.K A ninD) := inB_use (g := fun b => !b) hu op_notIn_sign (op_dNotIn (by omega)) op_notIn_seq (op_notInD hu)
theorem o_in (hu : X.A.units + 65 < cLine) : OpR X (compareOp .In) (rD X.K A inD) := fun pins s σ H x y v u Q I rx ry h => o_inc hu pins s σ H x y v u Q I rx ry (rD_c nf_in h)
theorem o_nin (hu : X.A.units + 65 < cLine) : OpR X (compareOp .NotIn) (rD X.K A ninD) := fun pins s σ H x y v u Q I rx ry h => o_ninc hu pins s σ H x y v u Q I rx ry (rD_c nf_nin h)
end DY

set_option Elab.async false
set_option linter.all false
set_option maxRecDepth 100000
namespace SL

/-! ### sizes -/
/-- below 2 ^ k in size -/
def Bd (k : Nat) (z : Int) : Prop := z.natAbs < 2 ^ k
theorem Bd.mono {a b : Nat} {z : Int} (h : Bd a z) (l : a ≤ b) : Bd b z := Nat.lt_of_lt_of_le h (Nat.pow_le_pow_right (by decide) l)
theorem Bd.neg {a : Nat} {x : Int} (h : Bd a x) : Bd a (-x) := by
  unfold Bd at *
  rw [Int.natAbs_neg]
  exact h
theorem Bd.of_le {a : Nat} {x y : Int} (h : Bd a y) (l : x.natAbs ≤ y.natAbs) : Bd a x := Nat.lt_of_le_of_lt l h
theorem Bd.small {x : Int} {k : Nat} (hk : 64 ≤ k) (h0 : -1000000000000 ≤ x) (h1 : x ≤ 1000000000000) : Bd k x := by
  refine Bd.mono (a := 64) ?_ hk
  unfold Bd
  have : (2 : Nat) ^ 64 = 18446744073709551616 := by decide
  omega

/-! ### lowest terms -/
/-- the greatest common divisor as an int -/
def gI (n d : Int) : Int := (Int.gcd n d : Int)
theorem gI_pos {n d : Int} (h : d ≠ 0) : 0 < gI n d := by
  unfold gI
  have : 0 < Int.gcd n d := Int.gcd_pos_of_ne_zero_right n h
  omega
theorem gI_nonneg (n d : Int) : 0 ≤ gI n d := by unfold gI; omega
theorem gI_dvd_right (n d : Int) : gI n d ∣ d := Int.gcd_dvd_right ..
/-- numerator and denominator in lowest terms -/
def nm (n d : Int) : Int := n / gI n d
def dn (n d : Int) : Int := d / gI n d
theorem gI_le {n d : Int} (h : 0 < d) : (gI n d).natAbs ≤ d.natAbs := by
  have : gI n d ≤ d := Int.le_of_dvd h (gI_dvd_right n d)
  have := gI_nonneg n d
  omega
/-- one turn of the gcd's loop -/
theorem gcd_turn {h l : Int} (hh : 0 ≤ h) (hl : 0 < l) : gI l (h.fmod l) = gI h l := by
  unfold gI
  rw [Int.fmod_eq_emod_of_nonneg h (by omega)]
  rw [Int.gcd_comm h l]
  congr 1
  rw [Int.emod_def, Int.mul_comm]
  exact Int.gcd_sub_mul_right_right ..
theorem gI_zero {h : Int} (hh : 0 ≤ h) : gI h 0 = h := by
  unfold gI
  rw [Int.gcd_zero_right]
  omega
theorem gI_abs (n d : Int) : gI (if n < 0 then -n else n) (if d < 0 then -d else d) = gI n d := by
  unfold gI
  split <;> split <;> simp
end SL

set_option Elab.async false
set_option linter.all false
set_option maxRecDepth 100000
set_option maxHeartbeats 4000000
namespace SL
open PySem L2 PySem.Spec PyProof.Rows

/-- the classes' addresses; cls: those that values may be of -/
structure Cl where
  C_Ratio : Addr := 0
  C_Form : Addr := 0
  C_Facts : Addr := 0
  C_Puppet : Addr := 0
  C_Script : Addr := 0
  C_Run : Addr := 0
  C_Wish : Addr := 0
  C_InvalidNumber : Addr := 0
  C_InvalidText : Addr := 0
  C_InvalidForm : Addr := 0
  emp : Addr := 0
  cls : List Addr := []
/-- what kind a value is of -/
inductive Ty where
  | non | bl | int | str | lst | tup | dic | cls (C : Addr)
  deriving DecidableEq
/-- what the written part must show of a class of values -/
structure CF (K : PySem.W.Frag) (C : Addr) : Prop where
  cl : Cls K C
  ha : PySem.W.findIn K (.ref C) "__class__" = some (some (.builtin "object.__class__"))
  hn : PySem.W.specialIn K (.builtin "object.__class__") "__get__" = some (some (.builtin "getset_descriptor.__get__"))
  ht : PySem.W.takesIn K (.builtin "object.__class__") = some true
  hm : PySem.W.mroIn K C (.type "object") = some true
  kb : ∀ T ∈ (["int", "bool", "str", "tuple", "list", "dict"] : List String), PySem.W.kitOne K (.ref C) (.type T) = some false
  kt : ∀ T ∈ (["NoneType", "bool", "int", "str", "list", "tuple", "dict"] : List String), PySem.W.kitOne K (.type T) (.ref C) = some false
  nf : ∀ T ∈ (["NoneType", "bool", "int", "str", "list", "tuple", "dict"] : List String), PySem.W.notFirst K C (.type T) = true
section
variable {K : PySem.W.Frag} {a : Cl} {H : Hp} {v : V} {t : Ty} {Q : VK}
end
end SL

set_option Elab.async false
set_option linter.all false
set_option maxRecDepth 100000
set_option maxHeartbeats 4000000
namespace DY
open PySem L2 PySem.Spec PyProof.Rows
variable [Tb]
section
variable {K : PySem.W.Frag} {A : CT} {G G' G1 G2 H H' H1 H2 : Hp} {σ : L2.St} {ρ ρ1 ρ2 ρ' : Env} {Q : VK}
/-! ### looks at slots -/
theorem look_ok {i : Nat} {d : D} (h : look ρ i = .ok d) : ρ[i]? = some (.sh d) ∨ ρ[i]? = some (.ow d) := by
  unfold look at h
  split at h
  · cases h; rename_i q; exact .inl q
  · cases h; rename_i q; exact .inr q
  · cases h
theorem look_at {i : Nat} {d : D} (s : St K A σ G H ρ) (h : look ρ i = .ok d) : ∃ v, σ[i]? = some (some v) ∧ RepB K A G H v d := by
  rcases look_ok h with h | h
  · obtain ⟨v, e, r⟩ := s.slot i _ h
    exact ⟨v, getD_some e, .inl r⟩
  · obtain ⟨p, e, n, z⟩ := s.slot i _ h
    exact ⟨.ref p, getD_some e, .inr ⟨p, rfl, n, z⟩⟩
theorem bor_use {f : D → D → R Rv} {i : Nat} {mb : Ev} (nf : ∀ x y r, f x y = .ok r → r.2 = false) (h : liftE K A (eBor f i mb) σ H Q) : tVar i σ H fun x H1 => liftE K A mb σ H1 fun y H2 => rDb K A f x y H2 Q := by
  obtain ⟨G, ρ, r, ρ', s, e, k⟩ := h
  obtain ⟨d0, e0, e⟩ := bind_ok e
  obtain ⟨⟨d2, ρ1⟩, e1, e⟩ := bind_ok e
  obtain ⟨d1, e2, e⟩ := bind_ok e
  obtain ⟨⟨d, b⟩, e3, e⟩ := bind_ok e
  obtain rfl : b = false := nf _ _ _ e3
  cases e
  obtain ⟨v, hv, _⟩ := look_at s e0
  refine ⟨v, hv, use_val s e1 fun y G1 H1 n r2 => ?_⟩
  obtain ⟨v', hv', r1⟩ := look_at n.st e2
  rw [hv] at hv'
  cases hv'
  exact ⟨G1, d1, d2, d, n.st.sub, r1, r2, e3, fun w rw' => k w G1 H1 n (RepR.of rw')⟩
theorem borR_use {f : D → D → R Rv} {i : Nat} {ma : Ev} (nf : ∀ x y r, f x y = .ok r → r.2 = false) (h : liftE K A (eBorR f ma i) σ H Q) : liftE K A ma σ H fun x H1 => tVar i σ H1 fun y H2 => rDc K A f x y H2 Q := by
  obtain ⟨G, ρ, r, ρ', s, e, k⟩ := h
  obtain ⟨⟨d2, ρ1⟩, e1, e⟩ := bind_ok e
  obtain ⟨d1, e2, e⟩ := bind_ok e
  obtain ⟨⟨d, b⟩, e3, e⟩ := bind_ok e
  obtain rfl : b = false := nf _ _ _ e3
  cases e
  refine use_val s e1 fun y G1 H1 n r2 => ?_
  obtain ⟨v', hv', r1⟩ := look_at n.st e2
  exact ⟨v', hv', G1, d2, d1, d, n.st.sub, r2, r1, e3, fun w rw' => k w G1 H1 n (RepR.of rw')⟩
theorem bor1_use {f : D → R Rv} {i : Nat} (nf : ∀ x r, f x = .ok r → r.2 = false) (h : liftE K A (eBor1 f i) σ H Q) : tCons (tVar i) tNil σ H fun xs H2 => rDb1 K A f xs H2 Q := by
  obtain ⟨G, ρ, r, ρ', s, e, k⟩ := h
  obtain ⟨d1, e2, e⟩ := bind_ok e
  obtain ⟨⟨d, b⟩, e3, e⟩ := bind_ok e
  obtain rfl : b = false := nf _ _ e3
  cases e
  obtain ⟨v', hv', r1⟩ := look_at s e2
  exact ⟨v', hv', G, v', d1, d, rfl, s.sub, r1, e3, fun w rw' => k w G H (Nx.refl s) (RepR.of rw')⟩
end
section
variable {X : Cx} {A : CT} {a b : Expr} {ma mb : Ev} {pos pos' p : Pos} {x : Str}
theorem pd_borix {i : Nat} (hu : X.A.units + 1 < cLine) (h : PE X (.Name x pos') (tVar i)) (hb : PD A X b mb) (hs : PlainIx b) : PD A X (.Subscript (.Name x pos') b pos) (eBor ixD i mb) := PE.imp (pe_ix (o_ixb hu) h hb hs) fun _ _ _ => bor_use nf_ix
theorem pdt_borin {i : Nat} (hu : X.A.units + 65 < cLine) (ha : PD A X a ma) (h : PE X (.Name x pos') (tVar i)) (hm : behindInMarks .In (.Name x pos') = false) : PDT A X (.Compare a [.In] [.Name x pos'] pos) (eBorR inD ma i) := PT.imp (pt_cmpR (o_inc hu) ha h hm) fun _ _ _ h => borR_use nf_in (test_use h)
end
/-! ### slices -/
section
variable {K : PySem.W.Frag} {A : CT} {G H : Hp} {σ : L2.St} {Q : VK}
variable (K A) in
def liftO (m : Option Ev) : TO := fun σ H Q => ∃ G ρ l ρ', St K A σ G H ρ ∧ part m ρ = .ok (l, ρ') ∧ ∀ G' H', Nx K A σ G H ρ G' H' ρ' → Q l H'
abbrev PDO (A : CT) (X : Cx) (e : Option Expr) (m : Option Ev) : Prop := PO X e (liftO X.K A m)
theorem PO.imp {X : Cx} {e : Option Expr} {t t' : TO} (h : PO X e t) (k : ∀ σ H Q, t' σ H Q → t σ H Q) : PO X e t' := ⟨fun pins s σ H Q I q => h.run pins s σ H Q I (k σ H Q q)⟩
theorem pdo_none {X : Cx} : PDO A X none none := PO.imp po_none fun σ H Q h => by
  obtain ⟨G, ρ, l, ρ', s, e, k⟩ := h
  cases e
  exact k G H (Nx.refl s)
theorem pdo_some {X : Cx} {e : Expr} {m : Ev} (he : PD A X e m) : PDO A X (some e) (some m) := PO.imp (po_some he) fun σ H Q h => by
  obtain ⟨G, ρ, l, ρ', s, e, k⟩ := h
  obtain ⟨⟨x, ρ1⟩, e1, e⟩ := bind_ok e
  refine use_val s e1 fun v G1 H1 n r => ?_
  dsimp only at e
  split at e
  · cases e
    cases r
    exact ⟨_, rfl, k G1 H1 n⟩
  · cases e
variable (K A) in
def rSlD : V → Option Int → Option Int → Hp → VK → Prop := fun x lo hi H Q => rDu K A (sliceD lo hi) x H Q
theorem cutV_reps {vs : List V} {ds : List D} (r : Reps K A G vs ds) (lo hi : Option Int) : Reps K A G (cutV vs lo hi) (cut ds lo hi) := by
  unfold cutV cut
  rw [r.len]
  exact (r.drop _).take _
theorem cut_whole {α : Type} {xs : List α} {lo hi : Option Int} (h1 : DY.sIx xs.length 0 lo = 0) (h2 : DY.sIx xs.length xs.length hi = xs.length) : cut xs lo hi = xs := by
  unfold cut
  rw [h1, h2]; simp
def rSlF (K : PySem.W.Frag) : V → Option Int → Option Int → Hp → VK → Prop := fun x lo hi H Q => ∃ a xs, x = .ref a ∧ SqT K H a xs ∧
  (HT.sIx xs.length 0 lo = 0 ∧ HT.sIx xs.length xs.length hi = xs.length → Q (.ref a) H) ∧ (¬ (HT.sIx xs.length 0 lo = 0 ∧ HT.sIx xs.length xs.length hi = xs.length) → ∀ p o, o.dict = none → H p = none → Q (.ref p) (upd H p (.frz o (.tup (cutV xs lo hi)))))
theorem sl_tupF {X : Cx} : SlR X (rSlF X.K) := by
  intro pins s σ H x v vl vu lo hi sl Q I rx hs pl pu h
  obtain ⟨a, xs, rfl, hx, q1, q2⟩ := h
  cases rx
  obtain ⟨its, r, ht, hz⟩ := I.tuple hx
  have hlen : its.toArray.size = xs.length := by rw [List.size_toArray]; exact r.length.symm
  refine ⟨"tuple", _, PyProof.Rows.slot_tuple_getitem.lookup, ht.typeIs, ?_⟩
  by_cases hw : HT.sIx xs.length 0 lo = 0 ∧ HT.sIx xs.length xs.length hi = xs.length
  · exact getItem_tuple_whole ht hs pl pu (by rw [hlen]; exact hw) ⟨.ref a, H, I, rfl, q1 hw⟩
  · refine HT.getItem_tuple_cut ht hs pl pu (by rw [hlen]; exact hw) ?_ (by rw [hlen]; exact hz)
    rw [hlen]
    refine ⟨.ref s.heap.objs.size, _, I.laid (t' := s.toks) (o := .frz { cls := .type "tuple", data := .seq ((its.toArray.toList.drop (HT.sIx xs.length 0 lo)).take (HT.sIx xs.length xs.length hi - HT.sIx xs.length 0 lo)).toArray } (.tup (cutV xs lo hi))) (fun b ob q => Heap.get?_push_of_some _ q) (Nat.le_refl _) ?_, rfl, q2 hw _ _ rfl (I.hok.fresh (Nat.le_refl _))⟩
    exact ⟨Heap.get?_push_size _ rfl, Nat.le_trans (cutV_length xs lo hi) hz, _, (r.drop (HT.sIx xs.length 0 lo)).take (HT.sIx xs.length xs.length hi - HT.sIx xs.length 0 lo), IsTup.new _ _⟩
theorem o_slice {X : Cx} : SlR X (rSlD X.K A) := by
  intro pins s σ H x v vl vu lo hi sl Q I rx hs pl pu h
  obtain ⟨G, d, r, sb, r1, e, k⟩ := h
  unfold sliceD at e
  split at e
  · cases r1 with | lst h1 q1 =>
    cases e
    refine sl_list pins s σ H _ v vl vu lo hi sl Q I rx hs pl pu ⟨_, _, rfl, SqL.of (sb.lst h1), fun p n => ?_⟩
    obtain ⟨n0, rr⟩ := new_lst (K := X.K) (A := A) sb n (cutV_reps q1 lo hi)
    exact k _ _ _ n0 rr
  · cases r1 with | fls h1 q1 =>
    cases e
    refine sl_list pins s σ H _ v vl vu lo hi sl Q I rx hs pl pu ⟨_, _, rfl, sb.sqL h1, fun p n => ?_⟩
    obtain ⟨n0, rr⟩ := new_lst (K := X.K) (A := A) sb n (cutV_reps q1 lo hi)
    exact k _ _ _ n0 rr
  · obtain ⟨p, vs, rfl, h1, q1⟩ := r1.sqT sb
    cases e
    refine sl_tupF pins s σ H _ v vl vu lo hi sl Q I rx hs pl pu ⟨_, _, rfl, h1, fun z => ?_, fun _ p o ho n => ?_⟩
    · rw [q1.len] at z
      rw [cut_whole z.1 z.2] at k
      exact same_end sb r1 k
    · obtain ⟨n0, rr⟩ := new_tup (K := X.K) (A := A) sb n ho (cutV_reps q1 lo hi)
      exact k _ _ _ n0 (RepR.of rr)
  · cases r1
    rename_i l
    split at e
    · rename_i q
      cases e
      refine sl_str pins s σ H _ v vl vu lo hi sl Q I rx hs pl pu ⟨_, rfl, by rw [S_len]; exact szK q, ?_⟩
      have : cutS (S l) lo hi = S (cut l lo hi) := by
        unfold cutS cut
        rw [S_toList, S_len]; rfl
      rw [this]
      exact same_end sb (.str _) k
    · cases e
  · cases e
theorem slice_use {ma : Ev} {ml mh : Option Ev} (h : liftE K A (eSlice ma ml mh) σ H Q) : tSl (rSlD K A) (liftE K A ma) (liftO K A ml) (liftO K A mh) σ H Q := by
  obtain ⟨G, ρ, r, ρ', s, e, k⟩ := h
  obtain ⟨⟨d1, ρ1⟩, e1, e⟩ := bind_ok e
  obtain ⟨⟨l, ρ2⟩, e2, e⟩ := bind_ok e
  obtain ⟨⟨h, ρ3⟩, e3, e⟩ := bind_ok e
  obtain ⟨r', e4, e⟩ := bind_ok e
  cases e
  refine use_val s e1 fun x G1 H1 n1 r1 => ⟨G1, ρ1, l, ρ2, n1.st, e2, fun G2 H2 n2 => ⟨G2, ρ2, h, _, n2.st, e3, fun G3 H3 n3 => ?_⟩⟩
  exact ⟨G3, d1, r, n3.st.sub, (r1.mono n2.gs).mono n3.gs, e4, end_of ((n1.trans n2).trans n3) k⟩
theorem pd_slice {X : Cx} {a : Expr} {lo hi : Option Expr} {ma : Ev} {ml mh : Option Ev} {p2 pos : Pos} (ha : PD A X a ma) (hl : PDO A X lo ml) (hh : PDO A X hi mh) : PD A X (.Subscript a (.Slice lo hi none p2) pos) (eSlice ma ml mh) := PE.imp (pe_slice o_slice ha hl hh) fun _ _ _ => slice_use
end
/-! ### types -/
/-- what the written part shows of the classes -/
structure KD (K : PySem.W.Frag) (A : CT) : Prop where
  cf : ∀ c ∈ A.cs, SL.CF K (A.ad c)
  cc : ∀ c ∈ A.cs, ∀ c' ∈ A.cs, PySem.W.kitOne K (.ref (A.ad c)) (.ref (A.ad c')) = some (decide (c = c'))
  nn : ∀ c ∈ A.cs, ∀ c' ∈ A.cs, PySem.W.notFirst K (A.ad c) (.ref (A.ad c')) = true
def tyD (A : CT) : D → Option Value
  | .non => some (.type "NoneType")
  | .bl _ => some (.type "bool")
  | .int _ => some (.type "int")
  | .str _ => some (.type "str")
  | .tup _ => some (.type "tuple")
  | .lst _ => some (.type "list")
  | .dic _ => some (.type "dict")
  | .ins c _ => some (.ref (A.ad c))
  | _ => none
theorem rep_ty {K : PySem.W.Frag} {A : CT} {G H : Hp} {x : V} {d : D} {t : Value} (kd : KD K A) (sb : Sub G H) (r : Rep K A G x d) (e : tyD A d = some t) : TyX K H x t := by
  cases r with
  | non => cases e; exact .base .non
  | bl b => cases e; exact .base (.bl b)
  | int i => cases e; exact .base (.int i)
  | str l => cases e; exact .base (.str _)
  | lst h q => cases e; exact .base (.lst (sb.lst h))
  | tup n h q => cases e; exact .fTuple (sb.frt h)
  | emp a b c d => cases e; exact .kTuple a b
  | dic h q =>
    cases e
    rcases sb.dK h with h | ⟨o, h⟩
    · exact .base (.dK h)
    · exact .fDict h
  | ins h l c q => cases e; exact .base (.ins (sb.ins h) (kd.cf _ c).cl (kd.cf _ c).ha (kd.cf _ c).hn (kd.cf _ c).ht (kd.cf _ c).hm)
  | _ => cases e
theorem kit_D {K : PySem.W.Frag} {A : CT} {G : Hp} {x : V} {d : D} {t : BT} {b : Bool} (kd : KD K A) (r : Rep K A G x d) (e : isB1 t d = some b) : ∃ u, tyD A d = some u ∧ PySem.W.kitOne K u (.type t.nm) = some b := by
  cases r with
  | ins h l c q =>
    refine ⟨_, rfl, ?_⟩
    have kb := (kd.cf _ c).kb
    cases t <;> first | (cases e; done) | (cases e; exact kb _ (by simp [BT.nm]))
  | _ =>
    cases t <;> first | (cases e; done) | (cases e; exact ⟨_, rfl, kit_ty (by decide +kernel)⟩)
section
variable {X : Cx} {A : CT}
theorem o_isi (kd : KD X.K A) : CallR X (.builtin "isinstance") (rDn X.K A isiD) := by
  intro pins s σ H xs us Q I r h
  obtain ⟨G, ds, r0, sb, rs, e, k⟩ := h
  unfold isiD at e
  split at e
  · rename_i x t
    obtain ⟨v1, v2, rfl, r1, r2⟩ := rs.inv2
    cases r2
    split at e
    · rename_i b hb
      cases e
      obtain ⟨u, h1, h2⟩ := kit_D kd r1 hb
      exact call_isi pins s σ H _ us Q I r ⟨_, _, _, _, _, rfl, .ty _, rep_ty kd sb r1 h1, h2, same_end sb (.bl _) k⟩
    · cases e
  · rename_i c0 f0 c1
    obtain ⟨v1, v2, rfl, r1, r2⟩ := rs.inv2
    cases r2 with | cls _ hc' =>
    cases e
    have hc : c0 ∈ A.cs := by cases r1 with | ins h l c q => exact c
    exact call_isi pins s σ H _ us Q I r ⟨_, _, _, _, _, rfl, .own _, rep_ty kd sb r1 rfl, kd.cc _ hc _ hc', same_end sb (.bl _) k⟩
  · cases e
  · cases e
  · cases e
  · cases e
  · cases e
  · cases e
  · rename_i x c n1 n2 n3 n6 n4 n5 n7
    obtain ⟨v1, v2, rfl, r1, r2⟩ := rs.inv2
    cases r2 with | cls _ hc' =>
    cases e
    have kt := (kd.cf _ hc').kt
    have fin : ∀ T, tyD A x = some (.type T) → T ∈ (["NoneType", "bool", "int", "str", "list", "tuple", "dict"] : List String) → wpAny (model X.prog X.w) X.A (call (.builtin "isinstance") us) (EP X pins σ Q) X.xe s := fun T h1 h2 =>
      call_isi pins s σ H _ us Q I r ⟨_, _, _, _, _, rfl, .own _, rep_ty kd sb r1 h1, kt T h2, same_end sb (.bl _) k⟩
    cases x with
    | non => exact fin _ rfl (by simp)
    | bl _ => exact fin _ rfl (by simp)
    | int _ => exact fin _ rfl (by simp)
    | str _ => exact fin _ rfl (by simp)
    | tup _ => exact fin _ rfl (by simp)
    | lst _ => exact fin _ rfl (by simp)
    | dic _ => exact fin _ rfl (by simp)
    | ins c' f => exact absurd rfl (n1 c' f)
    | fls l => exact absurd rfl (n2 l)
    | dct l => exact absurd rfl (n3 l)
    | kt l => exact absurd rfl (n6 l)
    | ty l => exact absurd rfl (n4 l)
    | cls l => exact absurd rfl (n5 l)
    | any => exact absurd rfl n7
  · cases e
/-! len -/
theorem o_noN {f : Value} : CallR X f (rDb1 X.K A no1) := by
  intro pins s σ H xs us Q I r h
  obtain ⟨G, x, d1, d, rfl, sb, r1, e, k⟩ := h
  cases e
theorem call_lenD {kvs0 : True} : CallR X (.builtin "len") (fun xs H Q => ∃ a kvs, xs = [.ref a] ∧ Rd H a (.dK kvs) ∧ Q (.int kvs.length) H) := by
  intro pins s σ H xs us Q I r h
  obtain ⟨a, kvs, rfl, e, q⟩ := h
  obtain rfl := Vals.ref1 r
  exact d_len I e fun t s' I' => ⟨.int _, H, I', ⟨t, rfl⟩, q⟩
theorem o_lenb {own : D → R Rv} (ho : CallR X (.builtin "len") (rDb1 X.K A own)) : CallR X (.builtin "len") (rDb1 X.K A (lenB own)) := by
  intro pins s σ H xs us Q I r h
  obtain ⟨G, x, d1, d, rfl, sb, r1, e, k⟩ := h
  unfold lenB at e
  split at e
  · obtain rfl := r1.str
    split at e
    · rename_i q
      cases e
      refine call_len pins s σ H _ us Q I r ⟨_, _, rfl, ⟨by rw [S_len]; exact szK q, rfl⟩, ?_⟩
      rw [S_len]; exact k _ (.int _)
    · cases e
  · obtain ⟨p, vs, rfl, h1, q1⟩ := r1.lst sb
    cases e
    exact call_len pins s σ H _ us Q I r ⟨_, _, rfl, .inl ⟨vs, SqL.of h1, rfl⟩, by rw [q1.len]; exact k _ (.int _)⟩
  · obtain ⟨p, vs, rfl, h1, q1⟩ := r1.fls sb
    cases e
    exact call_len pins s σ H _ us Q I r ⟨_, _, rfl, .inl ⟨vs, h1, rfl⟩, by rw [q1.len]; exact k _ (.int _)⟩
  · obtain ⟨p, vs, rfl, h1, q1⟩ := r1.tup sb
    cases e
    exact call_len pins s σ H _ us Q I r ⟨_, _, rfl, .inr ⟨vs, h1, rfl⟩, by rw [q1.len]; exact k _ (.int _)⟩
  · obtain ⟨p, kvs, rfl, h1, q1⟩ := r1.dic sb
    cases e
    exact call_lenD (kvs0 := trivial) pins s σ H _ us Q I r ⟨p, kvs, rfl, h1, by rw [q1.len]; exact k _ (.int _)⟩
  · exact ho pins s σ H _ us Q I r ⟨G, x, d1, d, rfl, sb, r1, e, k⟩
theorem nf_len {own : D → R Rv} (nf : ∀ x r, own x = .ok r → r.2 = false) (x : D) (r : Rv) (e : lenB own x = .ok r) : r.2 = false := by
  unfold lenB at e
  split at e
  · split at e
    · cases e; rfl
    · cases e
  all_goals first | (cases e; rfl) | exact nf _ _ e
theorem nf_no1 (x : D) (r : Rv) (e : no1 x = .ok r) : r.2 = false := by cases e
/-! numbers -/
theorem o_abs : CallR X (.builtin "abs") (rDn X.K A absD) := by
  intro pins s σ H xs us Q I r h
  obtain ⟨G, ds, r0, sb, rs, e, k⟩ := h
  unfold absD at e
  split at e
  · obtain ⟨v1, rfl, r1⟩ := rs.inv1
    cases r1; cases e
    exact call_abs pins s σ H _ us Q I r ⟨_, rfl, same_end sb (.int _) k⟩
  · cases e
theorem o_max (hc : X.calm = true) : CallR X (.builtin "max") (rDn X.K A maxD) := by
  intro pins s σ H xs us Q I r h
  obtain ⟨G, ds, r0, sb, rs, e, k⟩ := h
  unfold maxD at e
  split at e
  · obtain ⟨v1, v2, rfl, r1, r2⟩ := rs.inv2
    cases r1; cases r2; cases e
    exact call_max2 hc pins s σ H _ us Q I r ⟨_, _, rfl, same_end sb (.int _) k⟩
  · cases e
theorem o_min (hc : X.calm = true) : CallR X (.builtin "min") (rDn X.K A minD) := by
  intro pins s σ H xs us Q I r h
  obtain ⟨G, ds, r0, sb, rs, e, k⟩ := h
  unfold minD at e
  split at e
  · obtain ⟨v1, v2, rfl, r1, r2⟩ := rs.inv2
    cases r1; cases r2; cases e
    exact call_min2 hc pins s σ H _ us Q I r ⟨_, _, rfl, same_end sb (.int _) k⟩
  · cases e
theorem o_int : CallR X (.type "int") (rDn X.K A intD) := by
  intro pins s σ H xs us Q I r h
  obtain ⟨G, ds, r0, sb, rs, e, k⟩ := h
  unfold intD at e
  split at e
  · obtain ⟨v1, rfl, r1⟩ := rs.inv1
    cases r1; cases e
    exact call_int1 pins s σ H _ us Q I r (.inl ⟨_, rfl, same_end sb (.int _) k⟩)
  · obtain ⟨v1, rfl, r1⟩ := rs.inv1
    cases r1; cases e
    exact call_int1 pins s σ H _ us Q I r (.inr ⟨_, rfl, same_end sb (.int _) k⟩)
  · cases e
/-! lists of one kind -/
theorem bools_rep {K : PySem.W.Frag} {G : Hp} {vs : List V} {ds : List D} {bs : List Bool} (r : Reps K A G vs ds) (e : boolsOf ds = .ok bs) : vs = bs.map V.bl := by
  induction ds generalizing vs bs with
  | nil => cases r; cases e; rfl
  | cons d ds ih =>
    cases r with | cons a b =>
    unfold boolsOf at e
    split at e
    · rename_i h; cases h
    · rename_i h; cases h
      obtain ⟨bs', e1, e⟩ := bind_ok e
      cases e
      cases a
      rw [ih b e1]; rfl
    · cases e
theorem strs_rep {K : PySem.W.Frag} {G : Hp} {vs : List V} {ds : List D} {bs : List (List Nat)} (r : Reps K A G vs ds) (e : strsOf ds = .ok bs) : vs = (bs.map S).map V.str := by
  induction ds generalizing vs bs with
  | nil => cases r; cases e; rfl
  | cons d ds ih =>
    cases r with | cons a b =>
    unfold strsOf at e
    split at e
    · rename_i h; cases h
    · rename_i h; cases h
      obtain ⟨bs', e1, e⟩ := bind_ok e
      cases e
      cases a
      rw [ih b e1]; rfl
    · cases e
theorem reps_strs {K : PySem.W.Frag} {G : Hp} : ∀ (l : List (List Nat)), Reps K A G ((l.map S).map V.str) (l.map D.str)
  | [] => .nil
  | x :: xs => .cons (.str x) (reps_strs xs)
theorem o_all (hc : X.calm = true) : CallR X (.builtin "all") (rDn X.K A allD) := by
  intro pins s σ H xs us Q I r h
  obtain ⟨G, ds, r0, sb, rs, e, k⟩ := h
  unfold allD at e
  split at e
  · obtain ⟨v1, rfl, r1⟩ := rs.inv1
    cases r1 with | lst h1 q1 =>
    obtain ⟨bs, e1, e⟩ := bind_ok e
    cases e
    have := bools_rep q1 e1
    subst this
    exact cr_all hc pins s σ H _ us Q I r ⟨_, _, rfl, SqL.of (sb.lst h1), same_end sb (.bl _) k⟩
  · cases e
/-! sorted -/
theorem ltN_cps : ∀ a b : List Nat, ltN a b = ltCps a b
  | [], [] => rfl
  | [], _ :: _ => rfl
  | _ :: _, [] => rfl
  | a :: r, b :: t => by
    unfold ltN ltCps
    rw [ltN_cps r t]
    congr 2
theorem ltN_asymm : ∀ {a b : List Nat}, ltN a b = true → ltN b a = false
  | [], [], h => by cases h
  | [], _ :: _, _ => rfl
  | _ :: _, [], h => by cases h
  | a :: r, b :: t, h => by
    unfold ltN at *
    simp at *
    refine ⟨by omega, fun e => ?_⟩
    subst e
    rcases h with h | h
    · omega
    · exact ltN_asymm h.2
theorem ltN_total : ∀ a b : List Nat, ltN a b = false → ltN b a = false → a = b
  | [], [], _, _ => rfl
  | [], _ :: _, h, _ => by cases h
  | _ :: _, [], _, h => by cases h
  | a :: r, b :: t, h1, h2 => by
    unfold ltN at h1 h2
    simp at h1 h2
    have e : a = b := by omega
    subst e
    rw [ltN_total r t (h1.2 rfl) (h2.2 rfl)]
theorem ltN_trans : ∀ a b c : List Nat, ltN b a = false → ltN c b = false → ltN c a = false
  | [], b, [], _, _ => by rfl
  | [], [], _ :: _, _, h => by rfl
  | [], _ :: _, _ :: _, _, _ => by rfl
  | a :: r, [], c, h, _ => by cases h
  | a :: r, b :: t, [], _, h => by cases h
  | a :: r, b :: t, c :: u, h1, h2 => by
    unfold ltN at *
    simp at *
    refine ⟨by omega, fun e => ?_⟩
    subst e
    have e2 : b = c := by omega
    subst e2
    exact ltN_trans r t u (h1.2 rfl) (h2.2 rfl)
abbrev leS (a b : List Nat) : Prop := ltN b a = false
theorem insS_perm (x : List Nat) : ∀ l, (insS x l).Perm (x :: l)
  | [] => .refl _
  | y :: ys => by
    unfold insS
    split
    · exact ((insS_perm x ys).cons y).trans (.swap ..)
    · exact .refl _
theorem sortS_perm : ∀ l, (sortS l).Perm l
  | [] => .refl _
  | x :: xs => (insS_perm x _).trans ((sortS_perm xs).cons x)
theorem insS_pw (x : List Nat) : ∀ l, l.Pairwise leS → (insS x l).Pairwise leS
  | [], _ => List.pairwise_singleton ..
  | y :: ys, h => by
    have hp := List.pairwise_cons.mp h
    unfold insS
    split
    · rename_i q
      refine List.pairwise_cons.mpr ⟨fun z hz => ?_, insS_pw x ys hp.2⟩
      rcases List.mem_cons.mp ((insS_perm x ys).mem_iff.mp hz) with rfl | hz
      · exact ltN_asymm q
      · exact hp.1 z hz
    · rename_i q
      have q : ltN y x = false := by simpa using q
      refine List.pairwise_cons.mpr ⟨fun z hz => ?_, h⟩
      rcases List.mem_cons.mp hz with rfl | hz
      · exact q
      · exact ltN_trans x y z q (hp.1 z hz)
theorem sortS_pw : ∀ l, (sortS l).Pairwise leS
  | [] => .nil
  | x :: xs => insS_pw x _ (sortS_pw xs)
theorem risingS_pw : ∀ (l : List (List Nat)) (x : List Nat), risingS (S x) (l.map S) = true → (x :: l).Pairwise leS
  | [], x, _ => List.pairwise_singleton ..
  | y :: l, x, h => by
    rw [List.map_cons] at h
    unfold risingS at h
    rw [S_toList, S_toList, Bool.and_eq_true, ← ltN_cps] at h
    have ih := risingS_pw l y h.2
    have h1 : leS x y := by simpa using h.1
    refine List.pairwise_cons.mpr ⟨fun z hz => ?_, ih⟩
    rcases List.mem_cons.mp hz with rfl | hz
    · exact h1
    · exact ltN_trans x y z h1 ((List.pairwise_cons.mp ih).1 z hz)
theorem perm_S {l' : List Str} {l : List (List Nat)} (h : l'.Perm (l.map S)) : ∃ l2 : List (List Nat), l' = l2.map S ∧ l2.Perm l := by
  refine ⟨l'.map fun s => s.cps.toList, ?_, ?_⟩
  · rw [List.map_map]
    conv => lhs; rw [← List.map_id l']
    exact List.map_congr_left fun s _ => (S_cps s).symm
  · have := h.map fun s : Str => s.cps.toList
    rw [List.map_map] at this
    have e : (l.map ((fun s : Str => s.cps.toList) ∘ S)) = l := by
      conv => rhs; rw [← List.map_id l]
      exact List.map_congr_left fun s _ => S_toList s
    rw [e] at this
    exact this
theorem o_sorted : CallR X (.builtin "sorted") (rDn X.K A sortedD) := by
  intro pins s σ H xs us Q I r h
  obtain ⟨G, ds, r0, sb, rs, e, k⟩ := h
  unfold sortedD at e
  split at e
  · obtain ⟨v1, rfl, r1⟩ := rs.inv1
    cases r1 with | lst h1 q1 =>
    obtain ⟨bs, e1, e⟩ := bind_ok e
    split at e
    · rename_i q
      cases e
      have := strs_rep q1 e1
      subst this
      refine cr_sortedS pins s σ H _ us Q I r ⟨_, _, rfl, SqL.of (sb.lst h1), by rw [List.length_map]; exact q, fun ys p hp hs n => ?_⟩
      obtain ⟨l2, rfl, h2⟩ := perm_S hp
      have hpw : l2.Pairwise leS := by
        cases l2 with
        | nil => exact .nil
        | cons x l2 => exact risingS_pw l2 x hs
      have e3 : l2 = sortS bs := List.Perm.eq_of_pairwise (le := leS) (fun a b _ _ h1 h2 => ltN_total a b h2 h1) hpw (sortS_pw bs) (h2.trans (sortS_perm bs).symm)
      subst e3
      obtain ⟨n0, rr⟩ := new_lst (K := X.K) (A := A) sb n (reps_strs (sortS bs))
      exact k _ _ _ n0 rr
    · cases e
  · cases e
end
end DY

set_option Elab.async false
set_option linter.all false
set_option maxRecDepth 100000
set_option maxHeartbeats 4000000
namespace DY
open PySem L2 PySem.Spec PyProof.Rows
variable [Tb]
section
variable {X : Cx} {A : CT}
/-! ### tuple, list, dict -/
theorem call_tupleF : CallR X (.type "tuple") (fun xs H Q => ∃ p ys, xs = [.ref p] ∧ SqL X.K H p ys ∧ ∀ l o, o.dict = none → H l = none → Q (.ref l) (upd H l (.frz o (.tup ys)))) := by
  intro pins s σ H xs us Q I r h
  obtain ⟨p, ys, rfl, hq, q⟩ := h
  obtain ⟨u, rfl, rx⟩ := vals1 r
  cases rx
  obtain ⟨its, r', pl, hz⟩ := I.list hq
  have hlen := r'.length
  refine call_tuple_list pl.isList (fun h' kp => ?_) (by simp only [List.size_toArray] <;> omega)
  have I1 : Inv X pins σ H { s with heap := h' } := I.kept (t' := s.toks) kp
  have I2 : Inv X pins σ (upd H h'.objs.size (.frz { cls := .type "tuple", data := .seq its.toArray } (.tup ys))) { s with heap := h'.push { cls := .type "tuple", data := .seq its.toArray } } :=
    I1.laid (t' := s.toks) (fun b o e => Heap.get?_push_of_some _ e) (Nat.le_refl _) (show ObjOk X.prog X.w _ _ _ (.frz _ (.tup ys)) from ⟨Heap.get?_push_size _ rfl, hz, its, r', IsTup.new _ _⟩)
  exact ⟨.ref h'.objs.size, _, I2, rfl, q _ _ rfl (I1.hok.fresh (Nat.le_refl _))⟩
theorem o_tuple : CallR X (.type "tuple") (rDn X.K A tupleD) := by
  intro pins s σ H xs us Q I r h
  obtain ⟨G, ds, r0, sb, rs, e, k⟩ := h
  unfold tupleD at e
  split at e
  · obtain ⟨v1, rfl, r1⟩ := rs.inv1
    cases r1 with | lst h1 q1 =>
    cases e
    refine call_tupleF pins s σ H _ us Q I r ⟨_, _, rfl, SqL.of (sb.lst h1), fun p o ho n => ?_⟩
    obtain ⟨n0, rr⟩ := new_tup (K := X.K) (A := A) sb n ho q1
    exact k _ _ _ n0 (RepR.of rr)
  · obtain ⟨v1, rfl, r1⟩ := rs.inv1
    obtain ⟨p, vs, rfl, h1, q1⟩ := r1.sqT sb
    cases e
    exact call_tuple_of pins s σ H _ us Q I r ⟨_, _, rfl, .inr ⟨h1, same_end sb r1 k⟩⟩
  · cases e
theorem reps_keys {K : PySem.W.Frag} {G : Hp} : ∀ {kvs : List (Key × V)} {ds : List (Ky × D)}, RepK K A G kvs ds → Reps K A G (kvs.map fun kv => kV kv.1) (ds.map fun kv => kyD kv.1)
  | _, _, .nil => .nil
  | _, _, .cons (k := k) a b => .cons (kyD_rep k) (reps_keys b)
theorem o_list (hc : X.calm = true) : CallR X (.type "list") (rDn X.K A listD) := by
  intro pins s σ H xs us Q I r h
  obtain ⟨G, ds, r0, sb, rs, e, k⟩ := h
  unfold listD at e
  split at e
  · obtain ⟨v1, rfl, r1⟩ := rs.inv1
    cases r1 with | lst h1 q1 =>
    cases e
    refine call_list_of pins s σ H _ us Q I r ⟨_, _, rfl, .inl (SqL.of (sb.lst h1)), fun p n => ?_⟩
    obtain ⟨n0, rr⟩ := new_lst (K := X.K) (A := A) sb n q1
    exact k _ _ _ n0 rr
  · obtain ⟨v1, rfl, r1⟩ := rs.inv1
    obtain ⟨p, vs, rfl, h1, q1⟩ := r1.sqT sb
    cases e
    refine call_list_of pins s σ H _ us Q I r ⟨_, _, rfl, .inr h1, fun p n => ?_⟩
    obtain ⟨n0, rr⟩ := new_lst (K := X.K) (A := A) sb n q1
    exact k _ _ _ n0 rr
  · obtain ⟨v1, rfl, r1⟩ := rs.inv1
    cases r1 with | dic h1 q1 =>
    cases e
    refine call_listD hc pins s σ H _ us Q I r ⟨_, _, rfl, sb.dK h1, fun p n => ?_⟩
    obtain ⟨n0, rr⟩ := new_lst (K := X.K) (A := A) sb n (reps_keys q1)
    exact k _ _ _ n0 rr
  · cases e
/-! ### str -/
theorem figs_eq (i : Int) : (toString i : Str) = S (figs i) := by
  show Str.ofString (toString i) = S (figs i)
  rw [Str.ofString_eq_toList]
  rfl
theorem o_str {own : D → R Rv} (ho : CallR X (.type "str") (fun xs H Q => ∃ x, xs = [x] ∧ rDu X.K A own x H Q)) : CallR X (.type "str") (rDn X.K A (strD own)) := by
  intro pins s σ H xs us Q I r h
  obtain ⟨G, ds, r0, sb, rs, e, k⟩ := h
  unfold strD at e
  split at e
  · obtain ⟨v1, rfl, r1⟩ := rs.inv1
    cases r1
    split at e
    · rename_i q
      cases e
      exact call_str_int pins s σ H _ us Q I r ⟨_, rfl, q, by rw [figs_eq]; exact same_end sb (.str _) k⟩
    · cases e
  · obtain ⟨v1, rfl, r1⟩ := rs.inv1
    cases r1
    cases e
    exact SL.call_strSX pins s σ H _ us Q I r ⟨_, rfl, same_end sb (.str _) k⟩
  · obtain ⟨v1, rfl, r1⟩ := rs.inv1
    exact ho pins s σ H _ us Q I r ⟨v1, rfl, G, _, r0, sb, r1, e, k⟩
  · cases e
theorem o_noS : CallR X (.type "str") (fun xs H Q => ∃ x, xs = [x] ∧ rDu X.K A no1 x H Q) := by
  intro pins s σ H xs us Q I r h
  obtain ⟨x, rfl, G, d, r0, sb, r1, e, k⟩ := h
  cases e
end
end DY

set_option Elab.async false
set_option linter.all false
set_option maxRecDepth 100000
set_option maxHeartbeats 4000000
/-! ### rules for statements -/
namespace DY
open PySem L2 PySem.Spec PyProof.Rows
variable [Tb]
/-- a def's entry: what is shared, the heap, the lent object -/
structure Bs where
  G : Hp
  H : Hp
  O : Option Addr
structure StF (K : PySem.W.Frag) (A : CT) (j : Option Nat) (B : Bs) (σ : L2.St) (G H : Hp) (ρ : Env) : Prop where
  st : St K A σ G H ρ
  ext : Ext (fun p => B.O = some p) B.G B.H G H
  own : ∀ i p, Own σ ρ i p → (j = some i → B.O = some p) ∧ (j ≠ some i → B.H p = none)
section
variable {K : PySem.W.Frag} {A : CT} {j : Option Nat} {B : Bs} {G G' G1 H H' H1 : Hp} {σ σ' : L2.St} {ρ ρ1 ρ2 ρ' : Env} {D : Ends}
theorem StF.step (s : StF K A j B σ G H ρ) (n : Nx K A σ G H ρ G' H' ρ') : StF K A j B σ G' H' ρ' := by
  refine ⟨n.st, s.ext.trans n.ext fun p ⟨i, z⟩ => ?_, fun i p z => s.own i p (n.own i p z)⟩
  by_cases e : j = some i
  · exact .inl ((s.own i p z).1 e)
  · exact .inr ((s.own i p z).2 e)
/-- what is new here is new since the entry -/
theorem StF.fresh (s : StF K A j B σ G H ρ) {p : Addr} (h : H p = none) : B.H p = none := by
  cases q : B.H p with
  | none => rfl
  | some o => exact absurd h (s.ext.there p (by rw [q]; exact fun x => nomatch x))
variable (K A j B D) in
def SOut (o : Out) (ρ' : Env) : Prop :=
  match o with
  | .nx => ∀ σ' G' H', StF K A j B σ' G' H' ρ' → D.nx σ' H'
  | .bk => ∀ σ' G' H', StF K A j B σ' G' H' ρ' → D.bk σ' H'
  | .ct => ∀ σ' G' H', StF K A j B σ' G' H' ρ' → D.ct σ' H'
  | .rt r => ∀ v σ' G' H', StF K A j B σ' G' H' ρ' → RepR K A (OwnS σ' ρ') B.H G' H' v r → D.rt v H'
variable (K A j) in
def liftS (m : Sv) : TS := fun D σ H => ∃ B G ρ o ρ', StF K A j B σ G H ρ ∧ m ρ = .ok (o, ρ') ∧ SOut K A j B D o ρ'
end
abbrev PDS (A : CT) (j : Option Nat) (X : Cx) (s : Stmt) (m : Sv) : Prop := PS X s (liftS X.K A j m)
abbrev PDSs (A : CT) (j : Option Nat) (X : Cx) (s : List Stmt) (m : Sv) : Prop := PSs X s (liftS X.K A j m)
section
variable {X : Cx} {A : CT} {j : Option Nat} {st : Stmt} {rest : List Stmt} {m m' : Sv} {e a b c : Expr} {me ma mb mc : Ev} {pos pos' : Pos}
theorem pdss_nil : PDSs A j X [] sNext := PSs.imp pss_nil fun D σ H h => by
  obtain ⟨B, G, ρ, o, ρ', s, e, k⟩ := h
  cases e
  exact k σ G H s
theorem pdss_one (h : PDS A j X st m) : PDSs A j X [st] m := pss_one h
theorem pdss_cons (h1 : PDS A j X st m) (h2 : PDSs A j X rest m') : PDSs A j X (st :: rest) (sSeq m m') := PSs.imp (pss_cons h1 h2) fun D σ H h => by
  obtain ⟨B, G, ρ, o, ρ', s, e, k⟩ := h
  obtain ⟨⟨o1, ρ1⟩, e1, e⟩ := bind_ok e
  refine ⟨B, G, ρ, o1, ρ1, s, e1, ?_⟩
  cases o1 with
  | nx => exact fun σ' G' H' s' => ⟨B, G', ρ1, o, ρ', s', e, k⟩
  | bk => cases e; exact k
  | ct => cases e; exact k
  | rt r => cases e; exact k
theorem pds_no : PDS A j X st sNo := PS.imp ps_never fun D σ H h => by
  obtain ⟨B, G, ρ, o, ρ', s, e, k⟩ := h
  cases e
theorem pds_expr (he : PD A X e me) (hs : swapsWith e none pos.line X.env = pure false := by rfl) : PDS A j X (.Expr e pos) (sExpr me) := PS.imp (ps_expr he hs) fun D σ H h => by
  obtain ⟨B, G, ρ, o, ρ', s, e, k⟩ := h
  obtain ⟨⟨x, ρ1⟩, e1, e⟩ := bind_ok e
  cases e
  exact use_val s.st e1 fun v G1 H1 n r => k σ G1 H1 (s.step n)
theorem pds_ret (he : PD A X e me) : PDS A j X (.Return (some e) pos) (sRet me) := PS.imp (ps_ret he) fun D σ H h => by
  obtain ⟨B, G, ρ, o, ρ', s, e, k⟩ := h
  obtain ⟨⟨r, ρ1⟩, e1, e⟩ := bind_ok e
  cases e
  refine ⟨G, ρ, r, _, s.st, e1, fun v G1 H1 n h => k v σ G1 H1 (s.step n) ?_⟩
  unfold RepR at *
  split at h
  · rename_i q
    rw [if_pos q]
    obtain ⟨p, e, h1, h2, h3, h4⟩ := h
    exact ⟨p, e, h1, h2, h3, s.fresh h4⟩
  · rename_i q
    rw [if_neg q]; exact h
/-- return x -/
theorem pds_retV {i : Nat} {x : Str} (h : PE X (.Name x pos') (tVar i)) (hj : j ≠ some i) : PDS A j X (.Return (some (.Name x pos')) pos) (sRetV i) := PS.imp (ps_ret h) fun D σ H h => by
  obtain ⟨B, G, ρ, o, ρ', s, e, k⟩ := h
  obtain ⟨⟨r, ρ1⟩, e1, e⟩ := bind_ok e
  cases e
  unfold eMove at e1
  split at e1
  · rename_i d hd
    cases e1
    obtain ⟨v, e2, rv⟩ := s.st.slot i _ hd
    exact ⟨v, getD_some e2, k v σ G H s (RepR.of rv)⟩
  · rename_i d hd
    cases e1
    obtain ⟨p, e2, n, z⟩ := s.st.slot i _ hd
    have e3 := getD_some e2
    have no : ¬ OwnS σ (ρ.set i .un) p := fun ⟨i', z⟩ => by
      have := own_set (s := .un) (fun _ z => nomatch z) z
      exact this.2 (s.st.dist i' i p this.1 ⟨⟨d, hd⟩, e3⟩)
    refine ⟨.ref p, e3, k _ σ G H ⟨s.st.put (fun _ z => nomatch z) trivial, s.ext, fun i' p' z => s.own i' p' (own_set (s := .un) (fun _ z => nomatch z) z).1⟩ (RepR.new n z no ?_)⟩
    exact (s.own i p ⟨⟨d, hd⟩, e3⟩).2 hj
  · cases e1
theorem pds_if {sa sb : List Stmt} (hc : PDT A X c mc) (ha : PDSs A j X sa m) (hb : PDSs A j X sb m') : PDS A j X (.If c sa sb pos) (sIf mc m m') := PS.imp (ps_if hc ha hb) fun D σ H h => by
  obtain ⟨B, G, ρ, o, ρ', s, e, k⟩ := h
  obtain ⟨⟨x, ρ1⟩, e1, e⟩ := bind_ok e
  obtain ⟨c, e2, e⟩ := bind_ok e
  cases isB_ok e2
  refine ⟨G, ρ, c, ρ1, s.st, e1, fun G1 H1 n => ?_⟩
  cases c with
  | true => exact iteT ⟨B, G1, ρ1, o, ρ', s.step n, e, k⟩
  | false => exact iteF ⟨B, G1, ρ1, o, ρ', s.step n, e, k⟩
end
/-! ### names that are stored -/
section
variable {K : PySem.W.Frag} {A : CT} {j : Option Nat} {B : Bs} {G G' G1 H H' H1 : Hp} {σ σ' : L2.St} {ρ ρ1 ρ2 ρ' : Env} {D : Ends}
theorem own_setσ {i k : Nat} {p : Addr} {v : V} {s : Slot} (h : Own (σ.set i (some v)) (ρ.set i s) k p) : (k ≠ i ∧ Own σ ρ k p) ∨ (k = i ∧ v = .ref p ∧ ∃ d, s = .ow d) := by
  obtain ⟨⟨d, h1⟩, h2⟩ := h
  by_cases e : i = k
  · subst e
    rw [List.getElem?_set_self'] at h1 h2
    refine .inr ⟨rfl, ?_⟩
    cases q : ρ[i]? with
    | none => rw [q] at h1; cases h1
    | some x =>
      rw [q] at h1
      cases q2 : σ[i]? with
      | none => rw [q2] at h2; cases h2
      | some y =>
        rw [q2] at h2
        exact ⟨Option.some.inj (Option.some.inj h2), d, Option.some.inj h1⟩
  · rw [List.getElem?_set_ne e] at h1 h2
    exact .inl ⟨fun z => e z.symm, ⟨d, h1⟩, h2⟩
/-- slot i holds a value that stays -/
theorem St.store {i : Nat} {v : V} {d : DY.D} (s : St K A σ G H ρ) (r : Rep K A G v d) : St K A (σ.set i (some v)) G H (ρ.set i (.sh d)) ∧ ∀ k p, Own (σ.set i (some v)) (ρ.set i (.sh d)) k p → Own σ ρ k p ∧ k ≠ i := by
  have ow : ∀ k p, Own (σ.set i (some v)) (ρ.set i (.sh d)) k p → Own σ ρ k p ∧ k ≠ i := fun k p z => by
    rcases own_setσ z with z | ⟨_, _, d', z⟩
    · exact ⟨z.2, z.1⟩
    · cases z
  refine ⟨⟨s.sub, by rw [List.length_set, List.length_set]; exact s.len, fun k z hz => ?_, fun a b p ha hb => s.dist a b p (ow a p ha).1 (ow b p hb).1⟩, ow⟩
  by_cases e : i = k
  · subst e
    rw [List.getElem?_set_self'] at hz
    cases q : ρ[i]? with
    | none => rw [q] at hz; cases hz
    | some x =>
      rw [q] at hz
      cases (Option.some.inj hz)
      refine ⟨v, getD_of ?_, r⟩
      have : i < σ.length := by rw [s.len]; exact (List.getElem?_eq_some_iff.mp q).1
      rw [List.getElem?_set_self this]
  · rw [List.getElem?_set_ne e] at hz
    have := s.slot k z hz
    rw [List.getD_eq_getElem?_getD, List.getElem?_set_ne e, ← List.getD_eq_getElem?_getD]
    exact this
/-- slot i holds a new object of its own -/
theorem St.storeO {i : Nat} {p : Addr} {d : DY.D} (s : St K A σ G H ρ) (n : G p = none) (h : Has K A G H p d) (no : ¬ OwnS σ ρ p) : St K A (σ.set i (some (.ref p))) G H (ρ.set i (.ow d)) ∧ ∀ k q, Own (σ.set i (some (.ref p))) (ρ.set i (.ow d)) k q → (Own σ ρ k q ∧ k ≠ i) ∨ (k = i ∧ q = p) := by
  have ow : ∀ k q, Own (σ.set i (some (.ref p))) (ρ.set i (.ow d)) k q → (Own σ ρ k q ∧ k ≠ i) ∨ (k = i ∧ q = p) := fun k q z => by
    rcases own_setσ z with z | ⟨e, e2, d', z⟩
    · exact .inl ⟨z.2, z.1⟩
    · cases e2; exact .inr ⟨e, rfl⟩
  refine ⟨⟨s.sub, by rw [List.length_set, List.length_set]; exact s.len, fun k z hz => ?_, fun a b q ha hb => ?_⟩, ow⟩
  · by_cases e : i = k
    · subst e
      rw [List.getElem?_set_self'] at hz
      cases q : ρ[i]? with
      | none => rw [q] at hz; cases hz
      | some x =>
        rw [q] at hz
        cases (Option.some.inj hz)
        refine ⟨p, getD_of ?_, n, h⟩
        have : i < σ.length := by rw [s.len]; exact (List.getElem?_eq_some_iff.mp q).1
        rw [List.getElem?_set_self this]
    · rw [List.getElem?_set_ne e] at hz
      have := s.slot k z hz
      rw [List.getD_eq_getElem?_getD, List.getElem?_set_ne e, ← List.getD_eq_getElem?_getD]
      exact this
  · rcases ow a q ha with ⟨x, xe⟩ | ⟨x, x'⟩
    · rcases ow b q hb with ⟨y, ye⟩ | ⟨y, y'⟩
      · exact s.dist a b q x y
      · exact absurd ⟨a, y' ▸ x⟩ no
    · rcases ow b q hb with ⟨y, ye⟩ | ⟨y, y'⟩
      · exact absurd ⟨b, x' ▸ y⟩ no
      · rw [x, y]
theorem StF.store {i : Nat} {v : V} {d : DY.D} (s : StF K A j B σ G H ρ) (r : Rep K A G v d) : StF K A j B (σ.set i (some v)) G H (ρ.set i (.sh d)) :=
  ⟨(s.st.store r).1, s.ext, fun k p z => s.own k p ((s.st.store r).2 k p z).1⟩
/-- the value of an evaluation is stored, w: as an own object if it is new -/
theorem StF.keep {w : Bool} {i : Nat} {v : V} {r : Rv} (s : StF K A j B σ G H ρ) (n : Nx K A σ G H ρ G' H' ρ') (h : RepR K A (OwnS σ ρ') H G' H' v r) (hw : w = true → j ≠ some i) : ∃ G2, L2.Same G' G2 ∧ StF K A j B (σ.set i (some v)) G2 H' (ρ'.set i (DY.keep w r)) := by
  obtain ⟨d, b⟩ := r
  have s' := s.step n
  cases b with
  | false => exact ⟨G', fun _ _ z => z, by
      have : DY.keep w (d, false) = .sh d := rfl
      rw [this]; exact s'.store h⟩
  | true =>
    cases w with
    | false =>
      obtain ⟨G2, n2, r2, g⟩ := n.frz h
      exact ⟨G2, g, (s.step n2).store r2⟩
    | true =>
      obtain ⟨p, rfl, h1, h2, h3, h4⟩ := h
      refine ⟨G', fun _ _ z => z, (s'.st.storeO h1 h2 h3).1, s'.ext, fun k q z => ?_⟩
      rcases (s'.st.storeO h1 h2 h3).2 k q z with ⟨z, _⟩ | ⟨rfl, rfl⟩
      · exact s'.own k q z
      · exact ⟨fun e => absurd e (hw rfl), fun _ => s.fresh h4⟩
end
section
variable {K : PySem.W.Frag} {A : CT} {j : Option Nat} {B : Bs} {G G' G1 G2 H H' H1 H2 : Hp} {σ σ' : L2.St} {ρ ρ1 ρ2 ρ' : Env} {D : Ends}
theorem RepR.base {v : V} {r : Rv} {O : Addr → Prop} (s : StF K A j B σ G H ρ) (h : RepR K A O H G' H' v r) : RepR K A O B.H G' H' v r := by
  unfold RepR at *
  split at h
  · rename_i q
    rw [if_pos q]
    obtain ⟨p, e, h1, h2, h3, h4⟩ := h
    exact ⟨p, e, h1, h2, h3, s.fresh h4⟩
  · rename_i q
    rw [if_neg q]; exact h
/-- a new thing that waits while something else is evaluated -/
theorem RepR.nx {v : V} {r : Rv} {H0 : Hp} (h : RepR K A (OwnS σ ρ1) H0 G1 H1 v r) (n : Nx K A σ G1 H1 ρ1 G2 H2 ρ2) : RepR K A (OwnS σ ρ2) H0 G2 H2 v r := by
  unfold RepR at *
  split at h
  · rename_i q
    rw [if_pos q]
    obtain ⟨p, e, h1, h2, h3, h4⟩ := h
    refine ⟨p, e, ?_, h2.mono n.gs fun o z nt => n.ext.hs p o z h3 nt, fun ⟨i, z⟩ => h3 ⟨i, n.own i p z⟩, h4⟩
    cases z : G2 p with
    | none => rfl
    | some u =>
      rcases n.ext.fr p (by rw [z]; exact fun x => nomatch x) with z | z | z
      · exact absurd h1 z
      · obtain ⟨o, ho⟩ := h2.ex; rw [ho] at z; cases z
      · exact absurd z h3
  · rename_i q
    rw [if_neg q]; exact h.mono n.gs
theorem StF.keep0 {w : Bool} {i : Nat} {v : V} {r : Rv} (s : StF K A j B σ G H ρ) (h : RepR K A (OwnS σ ρ) B.H G H v r) (hw : w = true → j ≠ some i) : ∃ G2, StF K A j B (σ.set i (some v)) G2 H (ρ.set i (DY.keep w r)) ∧ L2.Same G G2 ∧ (∀ p, (r.2 = true → v ≠ .ref p) → G p = none → G2 p = none) ∧ ∀ k p, Own (σ.set i (some v)) (ρ.set i (DY.keep w r)) k p → Own σ ρ k p ∨ (r.2 = true ∧ v = .ref p) := by
  obtain ⟨d, b⟩ := r
  cases b with
  | false => exact ⟨G, s.store h, fun _ _ z => z, fun _ _ z => z, fun k p z => .inl ((s.st.store h).2 k p z).1⟩
  | true =>
    obtain ⟨p, rfl, h1, h2, h3, h4⟩ := h
    cases w with
    | false =>
      obtain ⟨o, ho, s1, r1, g⟩ := s.st.freeze h1 h2 h3
      have s2 : StF K A j B σ (upd G p o) H ρ := ⟨s1, ⟨fun q u z => g q u (s.ext.gs q u z), fun q hq => by
        by_cases z : q = p
        · subst z; exact .inr (.inl h4)
        · rw [upd_ne z] at hq; exact s.ext.fr q hq, s.ext.hs, s.ext.there⟩, s.own⟩
      exact ⟨_, s2.store r1, g, fun q hq z => by rw [upd_ne fun e => hq rfl (by rw [e])]; exact z, fun k q z => .inl ((s2.st.store r1).2 k q z).1⟩
    | true =>
      have so := s.st.storeO (i := i) h1 h2 h3
      refine ⟨G, ⟨so.1, s.ext, fun k q z => ?_⟩, fun _ _ z => z, fun _ _ z => z, fun k q z => ?_⟩
      · rcases so.2 k q z with ⟨z, _⟩ | ⟨rfl, rfl⟩
        · exact s.own k q z
        · exact ⟨fun e => absurd e (hw rfl), fun _ => h4⟩
      · rcases so.2 k q z with ⟨z, _⟩ | ⟨rfl, rfl⟩
        · exact .inl z
        · exact .inr ⟨rfl, rfl⟩
theorem StF.keep2 {w : Bool} {i k : Nat} {v v2 : V} {r q : Rv} (s : StF K A j B σ G H ρ) (h : RepR K A (OwnS σ ρ) B.H G H v r) (h' : RepR K A (OwnS σ ρ) B.H G H v2 q) (hd : r.2 = true → q.2 = true → v ≠ v2) (hik : i ≠ k) (hw : w = true → j ≠ some i ∧ j ≠ some k) :
    ∃ G2, StF K A j B ((σ.set i (some v)).set k (some v2)) G2 H ((ρ.set i (DY.keep w r)).set k (DY.keep w q)) := by
  obtain ⟨G1, s1, g1, f1, o1⟩ := s.keep0 (w := w) (i := i) h fun z => (hw z).1
  have h2 : RepR K A (OwnS (σ.set i (some v)) (ρ.set i (DY.keep w r))) B.H G1 H v2 q := by
    unfold RepR at h'
    split at h'
    · rename_i qf
      obtain ⟨p2, rfl, a1, a2, a3, a4⟩ := h'
      have ne : r.2 = true → v ≠ .ref p2 := fun rf => hd rf qf
      unfold RepR
      rw [if_pos qf]
      refine ⟨p2, rfl, f1 p2 ne a1, a2.mono g1 fun _ z _ => z, fun ⟨k', z⟩ => ?_, a4⟩
      rcases o1 k' p2 z with z | z
      · exact a3 ⟨k', z⟩
      · exact ne z.1 z.2
    · rename_i qf
      unfold RepR
      rw [if_neg qf]; exact h'.mono g1
  obtain ⟨G2, s2, _⟩ := s1.keep0 (w := w) (i := k) h2 fun z => (hw z).2
  exact ⟨G2, s2⟩
end
section
variable {X : Cx} {A : CT} {j : Option Nat} {e a b : Expr} {me ma mb : Ev} {pos pos' : Pos}
theorem set_use {K : PySem.W.Frag} {w : Bool} {i : Nat} {D : Ends} {σ : L2.St} {H : Hp} (hw : w = true → j ≠ some i) (h : liftS K A j (sAsg w i me) D σ H) : tAsg (liftE K A me) (gName i) D σ H := by
  obtain ⟨B, G, ρ, o, ρ', s, e, k⟩ := h
  obtain ⟨⟨r, ρ1⟩, e1, e⟩ := bind_ok e
  cases e
  refine ⟨G, ρ, r, ρ1, s.st, e1, fun v G1 H1 n h => ?_⟩
  obtain ⟨G2, _, s2⟩ := s.keep (w := w) (i := i) n h hw
  exact k _ G2 H1 s2
theorem pds_set {w : Bool} {i : Nat} {x : Str} (hN : X.N.Nodup) (hi : X.N[i]? = some x) (hx : Loc X.env.scope x) (he : PD A X e me) (hw : w = true → j ≠ some i) (hs : swapsWith e (some (.Name x pos')) pos.line X.env = pure false := by rfl) (hf : X.fn x = true ∨ X.env.scope.names.lookup x = some .local := by first | exact .inl rfl | exact .inr rfl | assumption) :
    PDS A j X (.Assign [.Name x pos'] e pos) (sAsg w i me) := PS.imp (ps_set hN hi hx he hs hf) fun D σ H => set_use hw
theorem pds_par {w : Bool} {i k : Nat} {x y : Str} {px py pt : Pos} {kt k2 pt2} (hc : X.calm = true) (hN : X.N.Nodup) (hi : X.N[i]? = some x) (hk : X.N[k]? = some y) (hik : i ≠ k)
    (hx : X.env.scope.names.lookup x = some .local) (hy : X.env.scope.names.lookup y = some .local) (ha : PD A X a ma) (hb : PD A X b mb) (hw : w = true → j ≠ some i ∧ j ≠ some k)
    (hsw : swappedStores [.Tuple [.Name x px, .Name y py] kt pt] (.Tuple [a, b] k2 pt2) X.env = pure (some [x, y]))
    (hs : swapsWithSole [.Tuple [.Name x px, .Name y py] kt pt] (.Tuple [a, b] k2 pt2) pos.line X.env = pure false := by rfl)
    (h1 : starEach [a, b] X.env = (false, eval a X.env) :: starEach [b] X.env := by rfl) (h2 : starEach [b] X.env = (false, eval b X.env) :: starEach [] X.env := by rfl) :
    PDS A j X (.Assign [.Tuple [.Name x px, .Name y py] kt pt] (.Tuple [a, b] k2 pt2) pos) (sPar w i k ma mb) := PS.imp (ps_par hc hN hi hk hik hx hy (pa_cons ha (pa_cons hb pa_nil h2) h1) hsw hs) fun D σ H h => by
  obtain ⟨B, G, ρ, o, ρ', s, e, kk⟩ := h
  obtain ⟨⟨r, ρ1⟩, e1, e⟩ := bind_ok e
  obtain ⟨⟨q, ρ2⟩, e2, e⟩ := bind_ok e
  cases e
  refine ⟨G, ρ, r, ρ1, s.st, e1, fun v G1 H1 n h => ?_⟩
  have s1 := s.step n
  refine ⟨G1, ρ1, q, ρ2, n.st, e2, fun v2 G2 H2 n2 hh => ⟨v, v2, rfl, ?_⟩⟩
  have s2 := s1.step n2
  have r1 : RepR X.K A (OwnS σ ρ2) B.H G2 H2 v r := (RepR.base s h).nx n2
  have r2 : RepR X.K A (OwnS σ ρ2) B.H G2 H2 v2 q := RepR.base s1 hh
  obtain ⟨G3, s3⟩ := s2.keep2 (w := w) (i := i) (k := k) r1 r2 (fun h1 h2 => by
    unfold RepR at h hh
    rw [if_pos h1] at h
    rw [if_pos h2] at hh
    obtain ⟨p, e1, _, x, _, _⟩ := h
    obtain ⟨p2, e3, _, _, _, y⟩ := hh
    intro z
    rw [e1, e3] at z
    cases z
    obtain ⟨o, x⟩ := x.ex
    rw [y] at x; cases x) hik hw
  exact kk _ G3 H2 s3
end
end DY

set_option Elab.async false
set_option linter.all false
set_option maxRecDepth 100000
set_option maxHeartbeats 4000000
namespace DY
open PySem L2 PySem.Spec PyProof.Rows
variable [Tb]
section
variable {K : PySem.W.Frag} {A : CT} {j : Option Nat} {B : Bs} {G G' G1 G2 H H' H1 H2 : Hp} {σ σ' : L2.St} {ρ ρ1 ρ2 ρ' : Env} {Q : VK}
/-- slot i's own object is written -/
theorem St.write {i : Nat} {d d' : D} {p : Addr} {o : HO} (s : St K A σ G H ρ) (h : ρ[i]? = some (.ow d)) (hp : σ[i]? = some (some (.ref p))) (new : Has K A G (upd H p o) p d') : Nx K A σ G H ρ G (upd H p o) (ρ.set i (.ow d')) := by
  have hO : Own σ ρ i p := ⟨⟨d, h⟩, hp⟩
  obtain ⟨gn, _, _, _⟩ := hO.has s
  have ow : ∀ k q, Own σ (ρ.set i (.ow d')) k q → Own σ ρ k q := fun k q ⟨⟨d2, h1⟩, h2⟩ => by
    by_cases e : i = k
    · subst e; exact ⟨⟨d, h⟩, h2⟩
    · rw [List.getElem?_set_ne e] at h1; exact ⟨⟨d2, h1⟩, h2⟩
  have other : ∀ q, q ≠ p → ∀ u, H q = some u → upd H p o q = some u := fun q n u z => by rw [upd_ne n]; exact z
  refine ⟨⟨fun _ _ z => z, fun _ z => .inl z, fun q u z n _ => other q (fun e => n (e ▸ ⟨i, hO⟩)) u z, fun q z => ?_⟩, ⟨⟨fun q u z => ?_, ?_, s.sub.nt, s.sub.bs⟩, by rw [List.length_set]; exact s.len, fun k z hz => ?_, fun a b q ha hb => s.dist a b q (ow a q ha) (ow b q hb)⟩, ow⟩
  · by_cases e : q = p
    · subst e; rw [upd_same]; exact fun x => nomatch x
    · rw [upd_ne e]; exact z
  · have ne : q ≠ p := fun e => by subst e; rw [gn] at z; cases z
    rw [upd_ne ne]
    exact s.sub q u z
  · obtain ⟨_, _, _, hh⟩ := hO.has s
    obtain ⟨o0, e0, n0⟩ := hh.nt
    exact nT.up e0 n0 s.sub.tb
  · by_cases e : i = k
    · subst e
      rw [List.getElem?_set_self (List.getElem?_eq_some_iff.mp h).1] at hz
      cases (Option.some.inj hz)
      exact ⟨p, getD_of hp, gn, new⟩
    · rw [List.getElem?_set_ne e] at hz
      have q := s.slot k z hz
      cases z with
      | un => trivial
      | sh d2 => exact q
      | ow d2 =>
        obtain ⟨p2, e1, n1, h1⟩ := q
        have ne : p2 ≠ p := fun z => e (s.dist i k p hO ⟨⟨d2, hz⟩, z ▸ getD_some e1⟩)
        exact ⟨p2, e1, n1, h1.mono (fun _ _ z => z) fun u z _ => other p2 ne u z⟩
theorem St.at_ {i : Nat} {d : D} (s : St K A σ G H ρ) (h : ρ[i]? = some (.ow d)) : ∃ p, σ[i]? = some (some (.ref p)) ∧ G p = none ∧ Has K A G H p d := by
  obtain ⟨p, e, n, z⟩ := s.slot i _ h
  exact ⟨p, getD_some e, n, z⟩
/-! ### xs.append(e), xs.pop(..) -/
theorem mut_use {f : D → List D → R (D × D)} {i : Nat} {ms : List Ev} {r : V → List V → Hp → VK → Prop} (hl : ∀ d xs q, f d xs = .ok q → ∃ ds, d = .lst ds)
    (hr : ∀ {p : Addr} {vs ws : List V} {ds xs : List D} {d' y : D} {G H : Hp} {Q : VK}, Sub G H → H p = some (.lst vs) → Reps K A G vs ds → Reps K A G ws xs → f (.lst ds) xs = .ok (y, d') → (∀ v o, Rep K A G v y → Has K A G (upd H p o) p d' → Q v (upd H p o)) → r (.ref p) ws H Q)
    (h : liftE K A (eMut f i ms) σ H Q) : tBM K "list" r (tVar i) (liftA K A ms) σ H Q := by
  obtain ⟨G, ρ, r', ρ', s, e, k⟩ := h
  obtain ⟨d0, e0, ea⟩ := bind_ok e
  obtain ⟨_, el, eb⟩ := bind_ok ea
  obtain ⟨⟨xs, ρ1⟩, e1, ec⟩ := bind_ok eb
  obtain ⟨ds0, hd0⟩ : ∃ ds, d0 = .lst ds := by cases d0 <;> first | exact ⟨_, rfl⟩ | cases el
  rw [hd0] at e0
  clear ea eb el e
  have e := ec
  clear ec
  obtain ⟨v, hv, rb⟩ := look_at s e0
  dsimp only at e
  split at e
  · rename_i d hd
    obtain ⟨⟨y, d'⟩, e2, e⟩ := bind_ok e
    cases e
    obtain ⟨p0, vs0, rfl, h0, _⟩ := rb.lst s.sub
    refine ⟨_, hv, .inl ⟨rfl, vs0, SqL.of h0⟩, G, ρ, xs, ρ1, s, e1, fun ws G1 H1 n rs => ?_⟩
    obtain ⟨p, hp, gn, hh⟩ := n.st.at_ hd
    rw [hv] at hp
    cases hp
    obtain ⟨ds, rfl⟩ := hl _ _ _ e2
    obtain ⟨vs, h1, h2⟩ := hh
    exact hr n.st.sub h1 h2 rs e2 fun w o rw' new => k w G1 _ (n.trans (n.st.write hd hv new)) (RepR.of rw')
  · cases e
theorem app_l (d : D) (xs : List D) (q : D × D) (e : appendM d xs = .ok q) : ∃ ds, d = .lst ds := by
  unfold appendM at e
  split at e
  · exact ⟨_, rfl⟩
  · cases e
theorem pop_l (d : D) (xs : List D) (q : D × D) (e : popM d xs = .ok q) : ∃ ds, d = .lst ds := by
  unfold popM at e
  split at e
  · exact ⟨_, rfl⟩
  · exact ⟨_, rfl⟩
  · cases e
theorem app_r {p : Addr} {vs ws : List V} {ds xs : List D} {d' y : D} (sb : Sub G H) (hp : H p = some (.lst vs)) (r : Reps K A G vs ds) (rs : Reps K A G ws xs) (e : appendM (.lst ds) xs = .ok (y, d')) (k : ∀ v o, Rep K A G v y → Has K A G (upd H p o) p d' → Q v (upd H p o)) : rAppend (.ref p) ws H Q := by
  unfold appendM at e
  split at e
  · rename_i h; cases h
    obtain ⟨w, rfl, rw'⟩ := rs.inv1
    split at e
    · rename_i q
      cases e
      exact ⟨p, vs, w, rfl, rfl, hp, small1000 (by rw [r.len]; exact Nat.le_of_lt q), k _ _ .non ⟨_, upd_same, r.append (.cons rw' .nil)⟩⟩
    · cases e
  · cases e
theorem reps_erase {vs : List V} {ds : List D} (h : Reps K A G vs ds) (n : Nat) : Reps K A G (vs.eraseIdx n) (ds.eraseIdx n) := by
  induction vs generalizing ds n with
  | nil => cases h; simp; exact .nil
  | cons w vs ih =>
    cases h with
    | cons a r => cases n with
      | zero => exact r
      | succ n => exact .cons a (ih r n)
theorem reps_dropLast {vs : List V} {ds : List D} (h : Reps K A G vs ds) : Reps K A G vs.dropLast ds.dropLast := by
  rw [List.dropLast_eq_take, List.dropLast_eq_take, h.len]; exact h.take _
theorem pop_r {p : Addr} {vs ws : List V} {ds xs : List D} {d' y : D} (sb : Sub G H) (hp : H p = some (.lst vs)) (r : Reps K A G vs ds) (rs : Reps K A G ws xs) (e : popM (.lst ds) xs = .ok (y, d')) (k : ∀ v o, Rep K A G v y → Has K A G (upd H p o) p d' → Q v (upd H p o)) : rPop (.ref p) ws H Q ∨ rPopAt (.ref p) ws H Q := by
  unfold popM at e
  split at e
  · rename_i h; cases h
    cases rs
    split at e
    · rename_i q
      cases e
      obtain ⟨w, h1, h2⟩ := r.get' q
      exact .inl ⟨p, vs, w, rfl, rfl, hp, by rw [r.len]; exact h1, k _ _ h2 ⟨_, upd_same, reps_dropLast r⟩⟩
    · cases e
  · rename_i h; cases h
    rename_i i
    obtain ⟨w, rfl, rw'⟩ := rs.inv1
    cases rw'
    split at e
    · rename_i hlen
      split at e
      · rename_i jx hj
        split at e
        · rename_i q
          cases e
          obtain ⟨w, h1, h2⟩ := r.get' q
          have := L2.ixN_seq (show L2.ixN ds.length i = some jx from hj)
          exact .inr ⟨p, vs, i, jx, w, rfl, rfl, hp, by omega, by omega, by rw [r.len]; exact this.1, h1, k _ _ h2 ⟨_, upd_same, reps_erase r jx⟩⟩
        · cases e
      · cases e
    · cases e
  · cases e
end
end DY

set_option Elab.async false
set_option linter.all false
set_option maxRecDepth 100000
set_option maxHeartbeats 4000000
namespace DY
open PySem L2 PySem.Spec PyProof.Rows
variable [Tb]
section
variable {X : Cx} {A : CT} {x : Str} {pos pos' p apos cpos : Pos} {i : Nat} {a b e : Expr} {ma mb me : Ev} {j : Option Nat}
theorem pd_append (h : PE X (.Name x pos') (tVar i)) (ha : PDA A X [e] [me])
    (hx : ∀ {r : V → List V → Hp → VK → Prop}, MtM X "list.append" r → PE X (.Call (.Attribute (.Name x pos') "append" apos) [e] [] pos) (tBM X.K "list" r (tVar i) (liftA X.K A [me]))) :
    PD A X (.Call (.Attribute (.Name x pos') "append" apos) [e] [] pos) (eMut appendM i [me]) := PE.imp (hx mt_append) fun σ H Q q => mut_use (r := rAppend) app_l app_r q
theorem pd_pop1 (hx : ∀ {r : V → List V → Hp → VK → Prop}, MtM X "list.pop" r → PE X (.Call (.Attribute (.Name x pos') "pop" apos) [e] [] pos) (tBM X.K "list" r (tVar i) (liftA X.K A [me]))) :
    PD A X (.Call (.Attribute (.Name x pos') "pop" apos) [e] [] pos) (eMut popM i [me]) := PE.imp (hx (r := fun x xs H Q => rPop x xs H Q ∨ rPopAt x xs H Q) (by
      intro pins s σ H v vs u us Q I r1 r2 q
      rcases q with q | q
      · exact mt_pop pins s σ H v vs u us Q I r1 r2 q
      · exact mt_popAt pins s σ H v vs u us Q I r1 r2 q)) fun σ H Q q => mut_use (r := fun x xs H Q => rPop x xs H Q ∨ rPopAt x xs H Q) pop_l pop_r q
/-! ### slot[e] = v -/
def rPutD (o i v : V) (H : Hp) (Q : Hp → Prop) : Prop := rSetL o i v H Q ∨ ∃ a H4, o = .ref a ∧ DPut H a i v H4 ∧ Q H4
theorem set_any (hu : X.A.units + 1 < cLine) : PSet X rPutD := by
  intro pins s σ H o i v ov iv u Q I ro ri rv q
  rcases q with q | ⟨a, H4, rfl, g, q⟩
  · exact set_list pins s σ H o i v ov iv u Q I ro ri rv q
  · obtain rfl : ov = Value.ref a := ro
    exact d_setItem hu I g ri rv fun s' I' => ⟨H4, I', q⟩
theorem put_use {K : PySem.W.Frag} {D : Ends} {σ : L2.St} {H : Hp} (h : liftS K A j (sPut putM i me mb) D σ H) : tAsg (liftE K A mb) (gSub (tVar i) (liftE K A me) rPutD) D σ H := by
  obtain ⟨B, G, ρ, o, ρ', s, e, k⟩ := h
  obtain ⟨⟨y, ρ1⟩, e1, e⟩ := bind_ok e
  obtain ⟨d0, e0, e⟩ := bind_ok e
  obtain ⟨⟨xk, ρ2⟩, e2, e⟩ := bind_ok e
  dsimp only at e
  split at e
  · rename_i d hd
    obtain ⟨d', e3, e⟩ := bind_ok e
    cases e
    refine use_val s.st e1 fun v G1 H1 n1 r1 => ?_
    obtain ⟨w, hw, _⟩ := look_at n1.st e0
    refine ⟨w, hw, use_val n1.st e2 fun kx G2 H2 n2 r2 => ?_⟩
    obtain ⟨p, hp, gn, hh⟩ := n2.st.at_ hd
    rw [hw] at hp
    cases hp
    have fin : ∀ o, Has K A G2 (upd H2 p o) p d' → D.nx σ (upd H2 p o) := fun o new => k σ G2 _ (s.step ((n1.trans n2).trans (n2.st.write hd hw new)))
    have r1' := r1.mono n2.gs
    unfold putM at e3
    split at e3
    · cases r2
      obtain ⟨vs, h1, h2⟩ := hh
      split at e3
      · rename_i jx hj
        cases e3
        exact .inl ⟨p, vs, _, jx, rfl, rfl, h1, by rw [h2.len]; exact hj, fin _ ⟨_, upd_same, h2.set r1' jx⟩⟩
      · cases e3
    · cases r2
      rename_i kvs ii
      obtain ⟨kv, h1, h2⟩ := hh
      split at e3
      · rename_i q
        cases e3
        exact .inr ⟨p, _, rfl, DPut.k (k := .inl ii) h1 (small1000 (by rw [h2.len]; exact Nat.le_of_lt q)), fin _ ⟨_, upd_same, h2.put (.inl ii) r1'⟩⟩
      · cases e3
    · cases r2
      rename_i kvs ll
      obtain ⟨kv, h1, h2⟩ := hh
      split at e3
      · rename_i q
        cases e3
        exact .inr ⟨p, _, rfl, DPut.k (k := .inr (S ll)) h1 (small1000 (by rw [h2.len]; exact Nat.le_of_lt q)), fin _ ⟨_, upd_same, h2.put (.inr ll) r1'⟩⟩
      · cases e3
    · obtain ⟨kk, e4, e3⟩ := bind_ok e3
      obtain ⟨bb, rfl, hb⟩ := key_tup r2 e4 n2.st.sub
      obtain ⟨kv, h1, h2⟩ := hh
      split at e3
      · rename_i q
        cases e3
        exact .inr ⟨p, _, rfl, DPut.t h1 hb (small1000 (by rw [h2.len]; exact Nat.le_of_lt q)), fin _ ⟨_, upd_same, h2.put kk r1'⟩⟩
      · cases e3
    · cases e3
  · cases e
theorem pds_put (hu : X.A.units + 1 < cLine) (h : PE X (.Name x p) (tVar i)) (he : PD A X e me) (hb : PD A X b mb)
    (ha : ∀ v, assign (.Subscript (.Name x p) e pos') X.env v = (do
      let ov ← holding [v] (eval (.Name x p) X.env)
      let iv ← holding [v, ov] (eval e X.env)
      standAt pos'
      holding [v, ov, iv] (setItem ov iv v)
      release [v, ov, iv] []) := by intro _; rfl)
    (hs : swapsWithSole [.Subscript (.Name x p) e pos'] b pos.line X.env = pure false := by rfl) (hw : swappedStores [.Subscript (.Name x p) e pos'] b X.env = pure none := by rfl)
    (h1 : (assignEach [.Subscript (.Name x p) e pos'] X.env).map (·.2) = [assign (.Subscript (.Name x p) e pos') X.env] := by rfl) :
    PDS A j X (.Assign [.Subscript (.Name x p) e pos'] b pos) (sPut putM i me mb) := PS.imp (ps_asg hb (pg_sub h he (set_any hu) ha) hs hw h1) fun D σ H => put_use
/-! ### attributes -/
theorem lookup_zip : ∀ {nms : List Str} {vs : List V} {k : Nat} {f : Str} {v : V}, nms.Nodup → nms[k]? = some f → vs[k]? = some v → (nms.zip vs).lookup f = some v
  | [], _, _, _, _, _, h, _ => by simp at h
  | _ :: _, [], _, _, _, _, _, h => by simp at h
  | n :: nms, w :: vs, 0, f, v, _, h1, h2 => by
    simp at h1 h2
    subst h1; subst h2
    show List.lookup n ((n, w) :: nms.zip vs) = _
    rw [List.lookup_cons]; simp
  | n :: nms, w :: vs, k + 1, f, v, nd, h1, h2 => by
    have nd' := List.nodup_cons.mp nd
    have h1' : nms[k]? = some f := by simpa using h1
    have ne : (f == n) = false := beq_eq_false_iff_ne.mpr fun z => nd'.1 (z ▸ List.mem_of_getElem? h1')
    show List.lookup f ((n, w) :: nms.zip vs) = _
    rw [List.lookup_cons, ne]
    exact lookup_zip nd'.2 h1' (by simpa using h2)
/-- what the written part shows of an attribute: the k-th of class c -/
structure FldOk (K : PySem.W.Frag) (A : CT) (c k : Nat) (f : Str) : Prop where
  na : NoAttr K (A.ad c) f
  at_ : (A.nms c)[k]? = some f
  nd : (A.nms c).Nodup
theorem pd_fld {c k : Nat} {f : Str} (kd : KD X.K A) (F : FldOk X.K A c k f) (ha : PD A X a ma) (hb : attributeBase a f X.env (eval a X.env) = eval a X.env := by rfl) : PD A X (.Attribute a f pos) (eUn (fldD c k) ma) := PE.imp (pe_fld ha hb) fun σ H Q q => by
  obtain ⟨G, ρ, r, ρ', s, e, kk⟩ := q
  obtain ⟨⟨d1, ρ1⟩, e1, e⟩ := bind_ok e
  obtain ⟨r', e3, e⟩ := bind_ok e
  cases e
  refine use_val s e1 fun v G1 H1 n r1 => ?_
  unfold fldD at e3
  split at e3
  · split at e3
    · rename_i hc
      subst hc
      obtain ⟨d, fl⟩ := r
      obtain ⟨h1, rfl⟩ := opt_ok e3
      cases r1 with
      | ins h l c rs =>
        obtain ⟨w, h2, h3⟩ := rs.get' h1
        exact ⟨_, _, _, _, w, rfl, n.st.sub.ins h, (kd.cf _ c).cl, F.na, lookup_zip F.nd F.at_ h2, kk w G1 H1 n (RepR.of h3)⟩
    · cases e3
  · cases e3
theorem putF_zip : ∀ {nms : List Str} {vs : List V} {f : Str} {y : V}, nms.Nodup → nms[vs.length]? = some f → putF f y (nms.zip vs) = nms.zip (vs ++ [y])
  | [], _, _, _, _, h => by simp at h
  | n :: nms, [], f, y, _, h => by
    simp at h
    subst h
    cases nms <;> rfl
  | n :: nms, w :: vs, f, y, nd, h => by
    have nd' := List.nodup_cons.mp nd
    have h' : nms[vs.length]? = some f := by simpa using h
    have ne : ¬ n = f := fun z => nd'.1 (z ▸ List.mem_of_getElem? h')
    show (if n = f then (n, y) :: nms.zip vs else (n, w) :: putF f y (nms.zip vs)) = (n, w) :: nms.zip (vs ++ [y])
    rw [if_neg ne, putF_zip nd'.2 h']
theorem pds_fld {c k : Nat} {f : Str} (kd : KD X.K A) (F : FldOk X.K A c k f) (hz : (A.nms c).length ≤ 900) (h : PE X (.Name x p) (tVar 0)) (hb : PD A X b mb) (hs : swapsWith b (some (.Attribute (.Name x p) f pos')) pos.line X.env = pure false := by rfl) :
    PDS A j X (.Assign [.Attribute (.Name x p) f pos'] b pos) (sFld c k mb) := PS.imp (ps_fld h hb hs) fun D σ H q => by
  obtain ⟨B, G, ρ, o, ρ', s, e, kk⟩ := q
  obtain ⟨⟨y, ρ1⟩, e1, e⟩ := bind_ok e
  dsimp only at e
  split at e
  · rename_i c' fs hd
    split at e
    · rename_i hk0
      cases e
      obtain ⟨rfl, hk⟩ := hk0
      refine use_val s.st e1 fun v G1 H1 n r1 => ?_
      obtain ⟨q, hp, gn, dx, vs, h1, h2, h3, h4⟩ := n.st.at_ hd
      have hl : vs.length = k := by rw [h4.len]; exact hk.symm
      have e5 : putF f v ((A.nms c').zip vs) = (A.nms c').zip (vs ++ [v]) := putF_zip F.nd (by rw [hl]; exact F.at_)
      refine ⟨.ref q, hp, q, _, dx, _, rfl, h1, (kd.cf _ h3).cl, F.na, by rw [List.length_zip]; omega, ?_⟩
      rw [e5]
      refine kk σ G1 _ (s.step (n.trans (n.st.write hd hp ⟨dx, _, upd_same, ?_, h3, h4.append (.cons r1 .nil)⟩)))
      have := (List.getElem?_eq_some_iff.mp F.at_).1
      rw [List.length_append, hl]; exact this
    · cases e
  · cases e
end
end DY

set_option Elab.async false
set_option linter.all false
set_option maxRecDepth 100000
set_option maxHeartbeats 4000000
namespace DY
open PySem L2 PySem.Spec PyProof.Rows
variable [Tb]
/-! ### d.get(k, z), sep.join(l) -/
section
variable {K : PySem.W.Frag} {A : CT} {G G' G1 G2 H H' H1 H2 : Hp} {σ σ' : L2.St} {ρ ρ1 ρ2 ρ' : Env} {Q : VK} {ma mk mz : Ev} {i : Nat}
end
section
variable {X : Cx} {A : CT} {x : Str} {pos pos' apos cpos : Pos} {i : Nat} {a e f : Expr} {ma me mf : Ev}
theorem fold_S (a : List Nat) : ∀ (xs : List (List Nat)) (acc : List Nat), ((xs.map S).foldl (fun acc p => acc ++ (S a).cps ++ p.cps) acc.toArray).toList = xs.foldl (fun acc y => acc ++ a ++ y) acc
  | [], acc => by simp
  | x :: xs, acc => by
    rw [List.map_cons, List.foldl_cons, List.foldl_cons]
    have : acc.toArray ++ (S a).cps ++ (S x).cps = (acc ++ a ++ x).toArray := by
      show acc.toArray ++ a.toArray ++ x.toArray = _
      simp
    rw [this]
    exact fold_S a xs _
theorem join_S (a : List Nat) (xs : List (List Nat)) : Txt.join (S a) (xs.map S) = S (joinS a xs) := by
  have ext : ∀ u v : Str, u.cps.toList = v.cps.toList → u = v := fun u v h => by rw [← S_cps u, ← S_cps v, h]
  refine ext _ _ ?_
  rw [S_toList]
  cases xs with
  | nil => rfl
  | cons x xs =>
    show ((xs.map S).foldl (fun acc p => acc ++ (S a).cps ++ p.cps) x.toArray).toList = _
    rw [fold_S]; rfl
def joinB (x y : D) : R Rv := joinD x [y]
theorem pd_join {o e : Expr} {mo me : Ev} (ho : PD A X o mo) (he : PD A X e me)
    (hx : ∀ {r : V → List V → Hp → VK → Prop} {to te : TE}, MtR X "str.join" r → PE X o to → PE X e te → PE X (.Call (.Attribute o "join" apos) [e] [] pos) (tM1 r to te)) :
    PD A X (.Call (.Attribute o "join" apos) [e] [] pos) (eBin joinB mo me) := PE.imp (hx SL.mt_joinX ho he) fun σ H Q q => by
  obtain ⟨G, ρ, r, ρ', s, e, k⟩ := q
  obtain ⟨⟨d1, ρ1⟩, e1, ea⟩ := bind_ok e
  obtain ⟨⟨d2, ρ2⟩, e2, eb⟩ := bind_ok ea
  obtain ⟨r', e3, ec⟩ := bind_ok eb
  clear e ea eb
  cases ec
  unfold joinB joinD at e3
  split at e3
  · rename_i hh
    cases hh
    refine use_val s e1 fun v G1 H1 n1 r1 => ?_
    cases r1
    refine ⟨⟨_, rfl⟩, use_val n1.st e2 fun w G2 H2 n2 r2 => ?_⟩
    cases r2 with | lst h1 q1 =>
    obtain ⟨ss, e4, e3⟩ := bind_ok e3
    split at e3
    · rename_i hz
      cases e3
      have := strs_rep q1 e4
      subst this
      refine ⟨_, _, ss.map S, rfl, rfl, .inl (SqL.of (n2.st.sub.lst h1)), ?_, ?_⟩
      · rw [List.map_map, List.length_map, S_len]
        have : (ss.map ((fun x : Str => x.length) ∘ S)) = ss.map (·.length) := List.map_congr_left fun l _ => S_len l
        rw [this]; omega
      · rw [join_S]
        exact k _ G2 H2 (n1.trans n2) (RepR.of (.str _))
    · cases e3
  · cases e3
end
/-! ### defs -/
section
variable (K : PySem.W.Frag) (A : CT)
/-- the promise of a def by its mirror -/
def spF (F : Fn) (n : Nat) : Sp := fun vs H Q _ => vs.length = n ∧ rDn K A F vs H Q
def spR (F : FnR) (n j : Nat) : Sp := fun vs H Q _ => vs.length = n ∧ j < n ∧ ∃ G ds d p r d', Sub G H ∧ vs[j]? = some (.ref p) ∧ Reps K A G (vs.eraseIdx j) ds ∧ G p = none ∧ Has K A G H p d ∧ F ds d = .ok (r, d') ∧
  ∀ v G' H', Ext (fun q => q = p) G H G' H' → Sub G' H' → G' p = none → Has K A G' H' p d' → RepN K A H G' H' v r → Q v H'
end
section
variable {K : PySem.W.Frag} {A : CT} {G H : Hp} {Q : VK}
theorem reps_un {G : Hp} : ∀ {vs : List V} {ds : List D}, Reps K A G vs ds → ∀ (i : Nat) (s : Slot), (ds.map Slot.sh)[i]? = some s → ∃ d v, s = Slot.sh d ∧ vs[i]? = some v ∧ Rep K A G v d := fun {vs ds} h i s e => by
  rw [List.getElem?_map] at e
  obtain ⟨d, h1, rfl⟩ := Option.map_eq_some_iff.mp e
  obtain ⟨v, h2, h3⟩ := h.get' h1
  exact ⟨d, v, rfl, h2, h3⟩
/-- the slots at a def's entry -/
theorem start_st {N : List Str} {vs : List V} {ds : List D} {n : Nat} (hn : N.length = n) (s : Sub G H) (r : Reps K A G vs ds) (hl : ds.length ≤ n) : St K A (L2.start N vs) G H (slots n ds) := by
  have lv : vs.length = ds.length := r.len
  have hslot : ∀ (i : Nat) (s : Slot), (slots n ds)[i]? = some s → (∃ d v, s = Slot.sh d ∧ (L2.start N vs)[i]? = some (some v) ∧ Rep K A G v d) ∨ s = Slot.un := fun i s e => by
    unfold slots at e
    by_cases hi : i < ds.length
    · rw [List.getElem?_append_left (by simpa using hi)] at e
      obtain ⟨d, v, rfl, h1, h2⟩ := reps_un r i s e
      refine .inl ⟨d, v, rfl, ?_, h2⟩
      unfold L2.start
      rw [List.getElem?_append_left (by rw [List.length_map, lv]; exact hi), List.getElem?_map, h1]; rfl
    · rw [List.getElem?_append_right (by simpa using hi)] at e
      exact .inr (List.eq_of_mem_replicate (List.mem_of_getElem? e))
  have noOwn : ∀ i p, ¬ Own (L2.start N vs) (slots n ds) i p := fun i p ⟨⟨d, h1⟩, _⟩ => by
    rcases hslot i _ h1 with ⟨_, _, e, _⟩ | e <;> cases e
  refine ⟨s, ?_, fun i s e => ?_, fun i j p h _ => absurd h (noOwn i p)⟩
  · unfold L2.start slots
    rw [List.length_append, List.length_append, List.length_map, List.length_map, List.length_replicate, List.length_replicate, lv, hn]
  · rcases hslot i s e with ⟨d, v, rfl, h1, h2⟩ | rfl
    · exact ⟨v, getD_of h1, h2⟩
    · trivial
theorem noOwn_start {N : List Str} {vs : List V} {ds : List D} {n : Nat} : ∀ i p, ¬ Own (L2.start N vs) (slots n ds) i p := fun i p ⟨⟨d, h1⟩, _⟩ => by
  unfold slots at h1
  by_cases hi : i < ds.length
  · rw [List.getElem?_append_left (by simpa using hi), List.getElem?_map] at h1
    obtain ⟨_, _, e⟩ := Option.map_eq_some_iff.mp h1
    cases e
  · rw [List.getElem?_append_right (by simpa using hi)] at h1
    have := List.eq_of_mem_replicate (List.mem_of_getElem? h1)
    cases this
/-- a def's promise from its body's mirror -/
theorem enter_F {N : List Str} {n p : Nat} {body : Sv} {vs : List V} {E : XK} (hn : N.length = n) (hp : p ≤ n) (h : spF K A (mkFn n p body) p vs H Q E) : liftS K A none body { nx := fun _ H' => Q .non H', rt := Q } (L2.start N vs) H := by
  obtain ⟨_, G, ds, r, s, rs, e, k⟩ := h
  unfold mkFn at e
  split at e
  · rename_i hl
    obtain ⟨⟨o, ρ'⟩, e1, e⟩ := bind_ok e
    have s0 := start_st (N := N) hn s rs (by omega)
    refine ⟨⟨G, H, none⟩, G, slots n ds, o, ρ', ⟨s0, Ext.refl _ _ _, fun i p z => absurd z (noOwn_start i p)⟩, e1, ?_⟩
    have x0 : ∀ {σ' G' H'}, StF K A none ⟨G, H, none⟩ σ' G' H' ρ' → Nx0 G H G' H' := fun {σ' G' H'} z => ⟨z.ext.weak (fun p w => nomatch w), z.st.sub⟩
    cases o with
    | nx =>
      cases e
      exact fun σ' G' H' z => k .non G' H' (x0 z) (RepR.of .non)
    | bk => cases e
    | ct => cases e
    | rt r' =>
      cases e
      intro v σ' G' H' z hr
      refine k v G' H' (x0 z) ?_
      unfold RepN RepR at *
      split at hr
      · rename_i q
        rw [if_pos q]
        obtain ⟨p, e, h1, h2, _, h4⟩ := hr
        exact ⟨p, e, h1, h2, id, h4⟩
      · rename_i q
        rw [if_neg q]; exact hr
  · cases e
theorem insert_reps {G : Hp} {vs : List V} {ds : List D} {j : Nat} {w : V} : Reps K A G (vs.eraseIdx j) ds → vs[j]? = some w → ∃ xs ys, vs = xs ++ w :: ys ∧ xs.length = j ∧ Reps K A G xs (ds.take j) ∧ Reps K A G ys (ds.drop j) := fun h e => by
  have hj := (List.getElem?_eq_some_iff.mp e).1
  refine ⟨vs.take j, vs.drop (j + 1), ?_, by rw [List.length_take]; omega, ?_, ?_⟩
  · have := (List.getElem?_eq_some_iff.mp e).2
    rw [← this]
    exact (List.take_append_drop j vs).symm.trans (by rw [List.drop_eq_getElem_cons hj])
  · have := h.take j
    rw [List.eraseIdx_eq_take_drop_succ, List.take_append_of_le_length (by rw [List.length_take]; omega), List.take_take, Nat.min_self] at this
    exact this
  · have := h.drop j
    rw [List.eraseIdx_eq_take_drop_succ, List.drop_append_of_le_length (by rw [List.length_take]; omega), List.drop_take, Nat.sub_self, List.take_zero, List.nil_append] at this
    exact this
end
end DY

set_option Elab.async false
set_option linter.all false
set_option maxRecDepth 100000
set_option maxHeartbeats 4000000
namespace DY
open PySem L2 PySem.Spec PyProof.Rows
variable [Tb]
section
variable {K : PySem.W.Frag} {A : CT} {G G' G1 G2 H H' H1 H2 : Hp} {σ σ' : L2.St} {ρ ρ1 ρ2 ρ' : Env} {Q : VK}
theorem ins_get {vs : List V} {ds : List D} {j : Nat} {w : V} {d : D} (h : Reps K A G (vs.eraseIdx j) ds) (e : vs[j]? = some w) : ∀ i, i ≠ j → ∀ x, (ds.take j ++ d :: ds.drop j)[i]? = some x → ∃ v, vs[i]? = some v ∧ Rep K A G v x := by
  obtain ⟨xs, ys, rfl, hl, h1, h2⟩ := insert_reps h e
  intro i hi x hx
  have tl : (ds.take j).length = j := by rw [← h1.len, hl]
  by_cases q : i < j
  · rw [List.getElem?_append_left (by omega)] at hx
    obtain ⟨v, e1, e2⟩ := h1.get' hx
    exact ⟨v, by rw [List.getElem?_append_left (by omega)]; exact e1, e2⟩
  · rw [List.getElem?_append_right (by omega), tl] at hx
    obtain ⟨m, hm⟩ : ∃ m, i - j = m + 1 := ⟨i - j - 1, by omega⟩
    rw [hm] at hx
    obtain ⟨v, e1, e2⟩ := h2.get' (show (ds.drop j)[m]? = some x by simpa using hx)
    refine ⟨v, ?_, e2⟩
    rw [List.getElem?_append_right (by omega), hl, hm]
    simpa using e1
theorem start_stR {N : List Str} {n p j : Nat} {vs : List V} {ds : List D} {d : D} {q : Addr} (hn : N.length = n) (hp : p ≤ n) (hvl : vs.length = p) (s : Sub G H) (e0 : vs[j]? = some (.ref q)) (rs : Reps K A G (vs.eraseIdx j) ds) (gn : G q = none) (hh : Has K A G H q d) (hl : ds.length + 1 = p) (hj : j < p) : St K A (L2.start N vs) G H ((slots n (ds.take j ++ d :: ds.drop j)).set j (.ow d)) ∧ ∀ i p', Own (L2.start N vs) ((slots n (ds.take j ++ d :: ds.drop j)).set j (.ow d)) i p' → i = j ∧ p' = q := by
  have dl : (ds.take j ++ d :: ds.drop j).length = p := by
    rw [List.length_append, List.length_cons, List.length_take, List.length_drop]; omega
  have sl : (L2.start N vs).length = n := by unfold L2.start; rw [List.length_append, List.length_map, List.length_replicate, hvl, hn]; omega
  have sj : (L2.start N vs)[j]? = some (some (.ref q)) := by
    unfold L2.start
    rw [List.getElem?_append_left (by rw [List.length_map]; omega), List.getElem?_map, e0]; rfl
  have ρl : (slots n (ds.take j ++ d :: ds.drop j)).length = n := by unfold slots; rw [List.length_append, List.length_map, List.length_replicate, dl]; omega
  have hslot : ∀ (i : Nat) (z : Slot), ((slots n (ds.take j ++ d :: ds.drop j)).set j (.ow d))[i]? = some z → (i = j ∧ z = .ow d) ∨ (i ≠ j ∧ ((∃ x v, z = Slot.sh x ∧ (L2.start N vs)[i]? = some (some v) ∧ Rep K A G v x) ∨ z = .un)) := fun i z hz => by
    by_cases q : j = i
    · subst q
      rw [List.getElem?_set_self (by omega)] at hz
      exact .inl ⟨rfl, (Option.some.inj hz).symm⟩
    · refine .inr ⟨fun z => q z.symm, ?_⟩
      rw [List.getElem?_set_ne q] at hz
      unfold slots at hz
      by_cases hi : i < p
      · rw [List.getElem?_append_left (by rw [List.length_map]; omega), List.getElem?_map] at hz
        obtain ⟨x, h1, h2⟩ := Option.map_eq_some_iff.mp hz
        obtain ⟨v, h3, h4⟩ := ins_get rs e0 i (fun z => q z.symm) x h1
        refine .inl ⟨x, v, h2.symm, ?_, h4⟩
        unfold L2.start
        rw [List.getElem?_append_left (by rw [List.length_map]; omega), List.getElem?_map, h3]; rfl
      · rw [List.getElem?_append_right (by rw [List.length_map]; omega)] at hz
        exact .inr (List.eq_of_mem_replicate (List.mem_of_getElem? hz))
  have ow : ∀ i p', Own (L2.start N vs) ((slots n (ds.take j ++ d :: ds.drop j)).set j (.ow d)) i p' → i = j ∧ p' = q := fun i p' ⟨⟨d2, h1⟩, h2⟩ => by
    rcases hslot i _ h1 with ⟨rfl, _⟩ | ⟨_, ⟨_, _, z, _⟩ | z⟩
    · rw [sj] at h2; cases h2; exact ⟨rfl, rfl⟩
    · cases z
    · cases z
  have s0 : St K A (L2.start N vs) G H ((slots n (ds.take j ++ d :: ds.drop j)).set j (.ow d)) := by
    refine ⟨s, by rw [List.length_set, sl, ρl], fun i z hz => ?_, fun a b p' ha hb => by rw [(ow a p' ha).1, (ow b p' hb).1]⟩
    rcases hslot i z hz with ⟨rfl, rfl⟩ | ⟨_, ⟨x, v, rfl, h1, h2⟩ | rfl⟩
    · exact ⟨q, getD_of sj, gn, hh⟩
    · exact ⟨v, getD_of h1, h2⟩
    · trivial
  exact ⟨s0, ow⟩
theorem enter_R {N : List Str} {n p j : Nat} {body : Sv} {vs : List V} {E : XK} (hn : N.length = n) (hp : p ≤ n) (h : spR K A (mkFnR n p j body) p j vs H Q E) : liftS K A (some j) body { nx := fun _ H' => Q .non H', rt := Q } (L2.start N vs) H := by
  obtain ⟨hvl, hj, G, ds, d, q, r, d', s, e0, rs, gn, hh, e, k⟩ := h
  unfold mkFnR at e
  split at e
  · rename_i hl
    obtain ⟨⟨o, ρ'⟩, e1, e⟩ := bind_ok e
    obtain ⟨r', e2, e⟩ := bind_ok e
    obtain ⟨s0, ow⟩ := start_stR (N := N) hn hp hvl s e0 rs gn hh hl.1 hj
    refine ⟨⟨G, H, some q⟩, G, _, o, ρ', ⟨s0, Ext.refl _ _ _, fun i p' z => ⟨fun _ => by rw [(ow i p' z).2], fun w => absurd (by rw [(ow i p' z).1]) w⟩⟩, e1, ?_⟩
    have fin : ∀ {v : V} {σ' : L2.St} {G' H' : Hp}, StF K A (some j) ⟨G, H, some q⟩ σ' G' H' ρ' → RepR K A (OwnS σ' ρ') H G' H' v r' → Q v H' := fun {v σ' G' H'} z hr => by
      split at e
      · rename_i d2 hd
        cases e
        obtain ⟨p', h1, h2, h3⟩ := z.st.at_ hd
        obtain rfl : q = p' := Option.some.inj ((z.own j p' ⟨⟨_, hd⟩, h1⟩).1 rfl)
        refine k v G' H' (z.ext.weak fun x w => (Option.some.inj w).symm) z.st.sub h2 h3 ?_
        unfold RepN RepR at *
        split at hr
        · rename_i q
          rw [if_pos q]
          obtain ⟨p, e, h1, h2, _, h4⟩ := hr
          exact ⟨p, e, h1, h2, id, h4⟩
        · rename_i q
          rw [if_neg q]; exact hr
      · cases e
    cases o with
    | nx => cases e2; exact fun σ' G' H' z => fin z (RepR.of .non)
    | bk => cases e2
    | ct => cases e2
    | rt r2 => cases e2; exact fun v σ' G' H' z hr => fin z hr
  · cases e
/-- a lent object comes back -/
theorem St.lent {i : Nat} {d d' : D} {p : Addr} (s : St K A σ G H ρ) (h : ρ[i]? = some (.ow d)) (hp : σ[i]? = some (some (.ref p))) (x : Ext (fun q => q = p) G H G' H') (sb : Sub G' H') (gn : G' p = none) (new : Has K A G' H' p d') : Nx K A σ G H ρ G' H' (ρ.set i (.ow d')) := by
  have hO : Own σ ρ i p := ⟨⟨d, h⟩, hp⟩
  have ow : ∀ k q, Own σ (ρ.set i (.ow d')) k q → Own σ ρ k q := fun k q ⟨⟨d2, h1⟩, h2⟩ => by
    by_cases e : i = k
    · subst e; exact ⟨⟨d, h⟩, h2⟩
    · rw [List.getElem?_set_ne e] at h1; exact ⟨⟨d2, h1⟩, h2⟩
  refine ⟨x.weak fun q e => e ▸ ⟨i, hO⟩, ⟨sb, by rw [List.length_set]; exact s.len, fun k z hz => ?_, fun a b q ha hb => s.dist a b q (ow a q ha) (ow b q hb)⟩, ow⟩
  by_cases e : i = k
  · subst e
    rw [List.getElem?_set_self (List.getElem?_eq_some_iff.mp h).1] at hz
    cases (Option.some.inj hz)
    exact ⟨p, getD_of hp, gn, new⟩
  · rw [List.getElem?_set_ne e] at hz
    have q := s.slot k z hz
    cases z with
    | un => trivial
    | sh d2 => obtain ⟨v, h1, h2⟩ := q; exact ⟨v, h1, h2.mono x.gs⟩
    | ow d2 =>
      obtain ⟨p2, e1, n1, h1⟩ := q
      have ne : p2 ≠ p := fun z => e (s.dist i k p hO ⟨⟨d2, hz⟩, z ▸ getD_some e1⟩)
      refine ⟨p2, e1, ?_, h1.mono x.gs fun u z nt => x.hs p2 u z ne nt⟩
      cases z : G' p2 with
      | none => rfl
      | some u =>
        rcases x.fr p2 (by rw [z]; exact fun x => nomatch x) with z | z | z
        · exact absurd n1 z
        · obtain ⟨o, ho⟩ := h1.ex; rw [ho] at z; cases z
        · exact absurd z ne
/-- .. where it was nobody's -/
theorem St.lent0 {p : Addr} (s : St K A σ G H ρ) (no : ¬ OwnS σ ρ p) (x : Ext (fun q => q = p) G H G' H') (sb : Sub G' H') : St K A σ G' H' ρ := by
  refine ⟨sb, s.len, fun k z hz => ?_, s.dist⟩
  have q := s.slot k z hz
  cases z with
  | un => trivial
  | sh d2 => obtain ⟨v, h1, h2⟩ := q; exact ⟨v, h1, h2.mono x.gs⟩
  | ow d2 =>
    obtain ⟨p2, e1, n1, h1⟩ := q
    have ne : p2 ≠ p := fun z => no ⟨k, ⟨d2, hz⟩, z ▸ getD_some e1⟩
    refine ⟨p2, e1, ?_, h1.mono x.gs fun u z nt => x.hs p2 u z ne nt⟩
    cases z : G' p2 with
    | none => rfl
    | some u =>
      rcases x.fr p2 (by rw [z]; exact fun x => nomatch x) with z | z | z
      · exact absurd n1 z
      · obtain ⟨o, ho⟩ := h1.ex; rw [ho] at z; cases z
      · exact absurd z ne
variable (K A) in
def liftAR (ms : List Ev) (i : Nat) (ms' : List Ev) : TA := fun σ H Q => ∃ G ρ ds es ρ1 ρ2 w, St K A σ G H ρ ∧ evs ms ρ = .ok (ds, ρ1) ∧ evs ms' ρ1 = .ok (es, ρ2) ∧ σ[i]? = some (some w) ∧ ∀ vs ws G' H', Nx K A σ G H ρ G' H' ρ2 → Reps K A G' vs ds → Reps K A G' ws es → Q (vs ++ w :: ws) H'
variable (K A) in
def liftAT (ms : List Ev) (m : Ev) : TA := fun σ H Q => ∃ G ρ ds ρ1 t ρ2, St K A σ G H ρ ∧ evs ms ρ = .ok (ds, ρ1) ∧ m ρ1 = .ok (t, ρ2) ∧ ∀ vs w G' H', Nx K A σ G H ρ G' H' ρ2 → Reps K A G' vs ds → RepR K A (OwnS σ ρ2) H G' H' w t → Q (vs ++ [w]) H'
end
section
variable {X : Cx} {A : CT} {x : Str} {pos pos' p : Pos} {i : Nat} {a e : Expr} {es : List Expr} {ma me : Ev} {ms ms' : List Ev}
theorem par_nil (h : PE X (.Name x pos') (tVar i)) (hr : PDA A X es ms) (hs : starEach (.Name x pos' :: es) X.env = (false, eval (.Name x pos') X.env) :: starEach es X.env := by rfl) : PA X (.Name x pos' :: es) (liftAR X.K A [] i ms) := PA.imp (pa_cons h hr hs) fun σ H Q q => by
  obtain ⟨G, ρ, ds, es, ρ1, ρ2, w, s, e1, e2, hw, k⟩ := q
  cases e1
  exact ⟨w, hw, G, _, es, ρ2, s, e2, fun ws G' H' n rs => k [] ws G' H' n .nil rs⟩
theorem pat_nil (he : PD A X e me) (hs : starEach [e] X.env = (false, eval e X.env) :: starEach [] X.env := by rfl) : PA X [e] (liftAT X.K A [] me) := PA.imp (pa_cons he pa_nil hs) fun σ H Q q => by
  obtain ⟨G, ρ, ds, ρ1, t, ρ2, s, e1, e2, k⟩ := q
  cases e1
  exact ⟨G, _, t, ρ2, s, e2, fun w G' H' n r => k [] w G' H' n .nil r⟩
/-! ### calls -/
variable {CX : CXT} {k n : Nat} {f C : Addr} {fd : FuncData} {ps : List Str} {E : XK}
theorem call_use {K : PySem.W.Frag} {F : Fn} {dvs : List V} {dds : List D} {σ : L2.St} {H : Hp} {Q : VK} (hF : ∀ ds r, F ds = .ok r → ds.length = n) (hd : ∀ G, Reps K A G dvs dds) (h : liftE K A (eN (fun xs => F (xs ++ dds)) ms) σ H Q) : tCall (spF K A F n) dvs E (liftA K A ms) σ H Q := by
  refine TA_mono (n_use h) fun vs H1 q => ?_
  obtain ⟨G, ds, r, s, rs, e, k⟩ := q
  have rr := rs.append (hd G)
  exact ⟨by rw [rr.len]; exact hF _ _ e, G, _, r, s, rr, e, k⟩
theorem pd_callD {F : Fn} {dvs : List V} {ds : List Value} {dds : List D} (hF : ∀ ds r, F ds = .ok r → ds.length = n) (hdd : ∀ G, Reps X.K A G dvs dds) (Fo : FnOk X.prog X.w X.K X.mg X.base CX k f fd ps (spF X.K A F n)) (hr : Room k X.A) (hg : Gl X x) (hm : X.mg x = some (.ref f)) (hk : PySem.W.keepIn X.K (.ref f) = true) (hb : Binds X.K fd ps ds) (hd : Vals dvs ds) (hx : Passes CX X E)
    (ha : PDA A X (e :: es) ms) (hdb : (x == ("__debug__" : Str)) = false := by decide) (he : starEach (e :: es) X.env = (false, eval e X.env) :: starEach es X.env := by rfl) (hpl : (backTo pos (starEach es X.env)).any (·.1) = false := by rfl) :
    PD A X (.Call (.Name x p) (e :: es) [] pos) (eN (fun xs => F (xs ++ dds)) ms) := PE.imp (pe_call Fo hr hg hm hk hb hd hx ha hdb he hpl) fun _ _ _ => call_use hF hdd
theorem app_nil {F : Fn} : (fun xs => F (xs ++ [])) = F := by funext xs; rw [List.append_nil]
theorem pd_call {F : Fn} (hF : ∀ ds r, F ds = .ok r → ds.length = n) (Fo : FnOk X.prog X.w X.K X.mg X.base CX k f fd ps (spF X.K A F n)) (hr : Room k X.A) (hg : Gl X x) (hm : X.mg x = some (.ref f)) (hk : PySem.W.keepIn X.K (.ref f) = true) (hb : Binds X.K fd ps []) (hx : Passes CX X E)
    (ha : PDA A X (e :: es) ms) (hdb : (x == ("__debug__" : Str)) = false := by decide) (he : starEach (e :: es) X.env = (false, eval e X.env) :: starEach es X.env := by rfl) (hpl : (backTo pos (starEach es X.env)).any (·.1) = false := by rfl) :
    PD A X (.Call (.Name x p) (e :: es) [] pos) (eN F ms) := by
  have := pd_callD (dds := []) hF (fun _ => .nil) Fo hr hg hm hk hb .nil hx ha hdb he hpl (p := p) (pos := pos)
  rw [app_nil] at this
  exact this
/-- lending slot i -/
theorem pd_callR {F : FnR} {jn : Nat} (Fo : FnOk X.prog X.w X.K X.mg X.base CX k f fd ps (spR X.K A F n jn)) (hj : jn = ms.length) (hn : n = ms.length + ms'.length + 1) (hr : Room k X.A) (hg : Gl X x) (hm : X.mg x = some (.ref f)) (hk : PySem.W.keepIn X.K (.ref f) = true) (hb : Binds X.K fd ps []) (hx : Passes CX X E)
    (ha : PA X (e :: es) (liftAR X.K A ms i ms')) (hdb : (x == ("__debug__" : Str)) = false := by decide) (he : starEach (e :: es) X.env = (false, eval e X.env) :: starEach es X.env := by rfl) (hpl : (backTo pos (starEach es X.env)).any (·.1) = false := by rfl) :
    PD A X (.Call (.Name x p) (e :: es) [] pos) (eCallR F ms i ms') := PE.imp (pe_call Fo hr hg hm hk hb .nil hx ha hdb he hpl) fun σ H Q h => by
  obtain ⟨G, ρ, r, ρ', s, e, kk⟩ := h
  obtain ⟨d0, e0, e⟩ := bind_ok e
  obtain ⟨⟨ds, ρ1⟩, e1, e⟩ := bind_ok e
  obtain ⟨⟨es', ρ2⟩, e2, e⟩ := bind_ok e
  obtain ⟨w, hw, _⟩ := look_at s e0
  refine ⟨G, ρ, ds, es', ρ1, ρ2, w, s, e1, e2, hw, fun vs ws G1 H1 n1 r1 r2 => ?_⟩
  dsimp only at e
  split at e
  · rename_i d hd
    obtain ⟨⟨r', d'⟩, e3, e⟩ := bind_ok e
    cases e
    obtain ⟨q, hq, gn, hh⟩ := n1.st.at_ hd
    rw [hw] at hq
    cases hq
    have hlen : ∀ {ms : List Ev} {ρ ρ' : Env} {ds : List D}, evs ms ρ = .ok (ds, ρ') → ds.length = ms.length := fun {ms} => by
      induction ms with
      | nil => intro ρ ρ' ds e; cases e; rfl
      | cons m ms ih =>
        intro ρ ρ' ds e
        obtain ⟨⟨d, ρ0⟩, e0, e⟩ := bind_ok e
        obtain ⟨⟨ds', ρ1'⟩, e3, e⟩ := bind_ok e
        cases e
        rw [List.length_cons, List.length_cons, ih e3]
    have lv : vs.length = jn := by rw [r1.len, hj, hlen e1]
    rw [List.append_nil]
    refine ⟨?_, by omega, G1, ds ++ es', d, q, r', d', n1.st.sub, ?_, ?_, gn, hh, e3, fun v G2 H2 x2 sb2 gn2 hh2 rn => ?_⟩
    · rw [List.length_append, List.length_cons, r1.len, r2.len, hlen e1, hlen e2, hn]; omega
    · rw [List.getElem?_append_right (by omega), lv]; simp
    · rw [List.eraseIdx_append_of_length_le (by omega), lv, Nat.sub_self]
      exact r1.append r2
    · have nl := n1.st.lent hd hw x2 sb2 gn2 hh2
      refine kk v G2 H2 (n1.trans nl) (later n1 ?_)
      have := rn.r n1.st
      unfold RepR at *
      split at this
      · rename_i q
        rw [if_pos q]
        obtain ⟨p, e, h1, h2, h3, h4⟩ := this
        exact ⟨p, e, h1, h2, fun ⟨i', z⟩ => h3 ⟨i', nl.own i' p z⟩, h4⟩
      · rename_i q
        rw [if_neg q]; exact this
  · cases e
/-- lending a new object -/
theorem pd_callT {F : FnR} {jn : Nat} (Fo : FnOk X.prog X.w X.K X.mg X.base CX k f fd ps (spR X.K A F n jn)) (hj : jn = ms.length) (hn : n = ms.length + 1) (hr : Room k X.A) (hg : Gl X x) (hm : X.mg x = some (.ref f)) (hk : PySem.W.keepIn X.K (.ref f) = true) (hb : Binds X.K fd ps []) (hx : Passes CX X E)
    (ha : PA X (e :: es) (liftAT X.K A ms me)) (hdb : (x == ("__debug__" : Str)) = false := by decide) (he : starEach (e :: es) X.env = (false, eval e X.env) :: starEach es X.env := by rfl) (hpl : (backTo pos (starEach es X.env)).any (·.1) = false := by rfl) :
    PD A X (.Call (.Name x p) (e :: es) [] pos) (eCallT F ms me) := PE.imp (pe_call Fo hr hg hm hk hb .nil hx ha hdb he hpl) fun σ H Q h => by
  obtain ⟨G, ρ, r, ρ', s, e, kk⟩ := h
  obtain ⟨⟨ds, ρ1⟩, e1, e⟩ := bind_ok e
  obtain ⟨⟨t, ρ2⟩, e2, e⟩ := bind_ok e
  refine ⟨G, ρ, ds, ρ1, t, ρ2, s, e1, e2, fun vs w G1 H1 n1 r1 rt => ?_⟩
  dsimp only at e
  split at e
  · rename_i ht
    obtain ⟨⟨r', d'⟩, e3, e⟩ := bind_ok e
    cases e
    unfold RepR at rt
    rw [if_pos ht] at rt
    obtain ⟨q, rfl, gn, hh, no, hq⟩ := rt
    have hlen : ∀ {ms : List Ev} {ρ ρ' : Env} {ds : List D}, evs ms ρ = .ok (ds, ρ') → ds.length = ms.length := fun {ms} => by
      induction ms with
      | nil => intro ρ ρ' ds e; cases e; rfl
      | cons m ms ih =>
        intro ρ ρ' ds e
        obtain ⟨⟨d, ρ0⟩, e0, e⟩ := bind_ok e
        obtain ⟨⟨ds', ρ1'⟩, e3, e⟩ := bind_ok e
        cases e
        rw [List.length_cons, List.length_cons, ih e3]
    have lv : vs.length = jn := by rw [r1.len, hj, hlen e1]
    rw [List.append_nil]
    refine ⟨?_, by omega, G1, ds, t.1, q, r', d', n1.st.sub, ?_, ?_, gn, hh, e3, fun v G2 H2 x2 sb2 gn2 hh2 rn => ?_⟩
    · rw [List.length_append, r1.len, hlen e1, hn]; rfl
    · rw [List.getElem?_append_right (by omega), lv]; simp
    · rw [List.eraseIdx_append_of_length_le (by omega), lv, Nat.sub_self]
      simp
      exact r1
    · have st2 := n1.st.lent0 no x2 sb2
      have nn : Nx X.K A σ G H ρ G2 H2 ρ' := ⟨n1.ext.trans x2 fun p z => .inr (z ▸ hq), st2, n1.own⟩
      refine kk v G2 H2 nn (later n1 (rn.r n1.st))
  · cases e
end
end DY

set_option Elab.async false
set_option linter.all false
set_option maxRecDepth 100000
set_option maxHeartbeats 4000000
namespace DY
open PySem L2 PySem.Spec PyProof.Rows
variable [Tb]
section
variable {X : Cx} {A : CT} {x m : Str} {pos pos' p apos : Pos} {i : Nat} {a e : Expr} {es : List Expr} {ma me : Ev} {ms ks : List Ev} {kws : List Keyword}
variable {CX : CXT} {k n : Nat} {f C : Addr} {fd : FuncData} {ps knm : List Str} {E : XK}
/-! ### C(..) -/
theorem make_use {K : PySem.W.Frag} {init : FnR} {c : Nat} {H : Hp} {Q : VK} {vs : List V} {G : Hp} {ds : List D} {r : Rv} (hc : c ∈ A.cs) (hl : vs.length + 1 = n) (s : Sub G H) (rs : Reps K A G vs ds) (e : mkObj c init ds = .ok r) (kk : ∀ v G' H', Nx0 G H G' H' → RepN K A H G' H' v r → Q v H') :
    ∀ x dx, H x = none → H dx = none → dx ≠ x → spR K A init n 0 (.ref x :: vs) (upd (upd H dx (.own x)) x (.ins (A.ad c) dx [])) (fun v H2 => v = .non ∧ Q (.ref x) H2) E := by
  intro y dx hy hdx hne
  obtain ⟨⟨r0, d'⟩, e1, e⟩ := bind_ok e
  dsimp only at e
  split at e
  · cases e
    have gno : ∀ q, H q = none → G q = none := fun q hq => by
      cases z : G q with
      | none => rfl
      | some u => obtain ⟨o, ho⟩ := s.ex z; rw [hq] at ho; cases ho
    have keepH : ∀ q o, H q = some o → upd (upd H dx (.own y)) y (.ins (A.ad c) dx []) q = some o := fun q o h => by rw [upd_ne (ne_of_none h hy), upd_ne (ne_of_none h hdx)]; exact h
    have s2 : Sub G (upd (upd H dx (.own y)) y (.ins (A.ad c) dx [])) := ⟨fun q o h => by
      rcases s q o h with h | ⟨z, ob, h⟩
      · exact .inl (keepH q o h)
      · exact .inr ⟨z, ob, keepH q _ h⟩, s.tb.ext keepH, s.nt, s.bs⟩
    refine ⟨by rw [List.length_cons]; exact hl, by omega, G, ds, .ins c [], y, (.non, false), d', s2, rfl, rs, gno y hy, ⟨dx, [], ?_, Nat.zero_le _, hc, .nil⟩, e1, fun v G' H' x' sb gn hh rn => ?_⟩
    · rw [upd_same, List.zip_nil_right]
    · cases (show Rep K A G' v .non from rn)
      refine ⟨rfl, ?_⟩
      obtain ⟨o, ho, rr⟩ := hh.frz gn
      have g2 : L2.Same G' (upd G' y o) := SL.Same.new gn
      refine kk (.ref y) (upd G' y o) H' ⟨⟨x'.gs.trans g2, fun q hq => ?_, fun q u h _ nt => x'.hs q u (keepH q u h) (ne_of_none h hy) nt, fun q h => x'.there q ?_⟩, ⟨fun q u h => ?_, sb.tb, sb.nt_upd hh.nt ho, sb.bs.trans g2⟩⟩ (RepR.of rr)
      · by_cases z : q = y
        · subst z; exact .inr (.inl hy)
        · rw [upd_ne z] at hq
          rcases x'.fr q hq with w | w | w
          · exact .inl w
          · refine .inr (.inl ?_)
            cases w2 : H q with
            | none => rfl
            | some u => rw [keepH q u w2] at w; cases w
          · exact absurd w z
      · cases w2 : H q with
        | none => exact absurd w2 h
        | some u => rw [keepH q u w2]; exact fun x => nomatch x
      · by_cases z : q = y
        · subst z; rw [upd_same] at h; cases h; exact .inl ho
        · rw [upd_ne z] at h; exact sb q u h
  · cases e
theorem pd_make {init : FnR} {c : Nat} {dvs : List V} {ds : List Value} {dds : List D} (hc : c ∈ A.cs) (hF : ∀ ds d r, init ds d = .ok r → ds.length + 1 = n) (hdd : ∀ G, Reps X.K A G dvs dds) (M : Mk X.K (A.ad c) f) (Fo : FnOk X.prog X.w X.K X.mg X.base CX k f fd ps (spR X.K A init n 0)) (hr : Room (k + 1) X.A) (hg : Gl X x) (hm : X.mg x = some (.ref (A.ad c))) (hb : Binds X.K fd ps ds) (hd : Vals dvs ds) (hx : Passes CX X E)
    (ha : PDA A X (e :: es) ms) (hdb : (x == ("__debug__" : Str)) = false := by decide) (he : starEach (e :: es) X.env = (false, eval e X.env) :: starEach es X.env := by rfl) (hpl : (backTo pos (starEach es X.env)).any (·.1) = false := by rfl) :
    PD A X (.Call (.Name x p) (e :: es) [] pos) (eN (fun xs => mkObj c init (xs ++ dds)) ms) := PE.imp (pe_make M Fo hr hg hm hb hd hx ha hdb he hpl) fun σ H Q h => by
  refine TA_mono (n_use h) fun vs H1 q => ?_
  obtain ⟨G, ds, r, s, rs, e, k⟩ := q
  have rr := rs.append (hdd G)
  refine make_use hc ?_ s rr e k
  obtain ⟨⟨r0, d'⟩, e1, _⟩ := bind_ok e
  rw [rr.len]; exact hF _ _ _ e1
/-! ### keywords -/
abbrev PDK (A : CT) (X : Cx) (kws : List Keyword) (ms : List Ev) : Prop := PK X kws (liftA X.K A ms)
theorem PK.imp {X : Cx} {e : List Keyword} {t t' : TA} (h : PK X e t) (k : ∀ σ H Q, t' σ H Q → t σ H Q) : PK X e t' := ⟨fun pos pins s σ H Q I q => h.run pos pins s σ H Q I (k σ H Q q)⟩
theorem pdk_nil : PDK A X [] [] := PK.imp pk_nil fun σ H Q h => by
  obtain ⟨G, ρ, ds, ρ', s, e, k⟩ := h
  cases e
  exact k [] G H (Nx.refl s) .nil
theorem pdk_cons {nm : Option Str} {kpos : Pos} (ha : PD A X a ma) (hr : PDK A X kws ms) : PDK A X (⟨nm, a, kpos⟩ :: kws) (ma :: ms) := PK.imp (pk_cons ha hr) fun _ _ _ => cons_use
/-- the values in the parameters' order, over V and over data -/
structure GV (gV : List V → List V → List V) (g : List D → List D → List D) : Prop where
  rel : ∀ {K : PySem.W.Frag} {A : CT} {G : Hp} {vs zs : List V} {ds es : List D}, Reps K A G vs ds → Reps K A G zs es → Reps K A G (gV vs zs) (g ds es)
theorem evs_len : ∀ {ms : List Ev} {ρ ρ' : Env} {ds : List D}, evs ms ρ = .ok (ds, ρ') → ds.length = ms.length := fun {ms} => by
  induction ms with
  | nil => intro ρ ρ' ds e; cases e; rfl
  | cons m ms ih =>
    intro ρ ρ' ds e
    obtain ⟨⟨d, ρ0⟩, e0, e⟩ := bind_ok e
    obtain ⟨⟨ds', ρ1'⟩, e3, e⟩ := bind_ok e
    cases e
    rw [List.length_cons, List.length_cons, ih e3]
/-- C(.., k = v): the object comes first: g is told without it -/
theorem makeK_use {K : PySem.W.Frag} {init : FnR} {c nm nk : Nat} {gV : List V → List V → List V} {g : List D → List D → List D} {σ : L2.St} {H : Hp} {Q : VK} (hc : c ∈ A.cs) (hF : ∀ ds d r, init ds d = .ok r → ds.length + 1 = n) (hg : GV gV g) {gV' : List V → List V → List V} (hg' : ∀ x vs zs, gV' (x :: vs) zs = x :: gV vs zs) (h1 : nm = ms.length) (h2 : nk = ks.length) (h : liftE K A (eNK (mkObj c init) g ms ks) σ H Q) :
    tMakeK (A.ad c) nm nk (spR K A init n 0) gV' E (liftA K A ms) (liftA K A ks) σ H Q := by
  obtain ⟨G, ρ, r, ρ', s, e, kk⟩ := h
  obtain ⟨⟨xs, ρ1⟩, e1, e⟩ := bind_ok e
  obtain ⟨⟨zs, ρ2⟩, e2, e⟩ := bind_ok e
  obtain ⟨r', e3, e⟩ := bind_ok e
  cases e
  refine ⟨G, ρ, xs, ρ1, s, e1, fun vs G1 H1 n1 r1 => ⟨G1, ρ1, zs, _, n1.st, e2, fun ws G2 H2 n2 r2 => ⟨by rw [r1.len, evs_len e1, h1], by rw [r2.len, evs_len e2, h2], ?_⟩⟩⟩
  intro y dx hy hdx hne
  rw [hg']
  have rr := hg.rel (r1.mono n2.gs) r2
  refine make_use hc ?_ n2.st.sub rr e3 (end_of (n1.trans n2) kk) y dx hy hdx hne
  obtain ⟨⟨r0, d'⟩, e4, _⟩ := bind_ok e3
  rw [rr.len]; exact hF _ _ _ e4
/-! ### o.m(..) -/
/-! ### own operators -/
theorem o_sel {f : Value → Value → Sem Value} {g : D → D → Bool} {h1 h2 : D → D → R Rv} (a : OpR X f (rD X.K A (sel g h1 no2))) (b : OpR X f (rD X.K A h2)) : OpR X f (rD X.K A (sel g h1 h2)) := by
  intro pins s σ H x y v u Q I rx ry h
  obtain ⟨G, d1, d2, r, sb, r1, r2, e, k⟩ := h
  unfold sel at e
  by_cases q : g d1 d2 = true
  · rw [if_pos q] at e
    exact a pins s σ H x y v u Q I rx ry ⟨G, d1, d2, r, sb, r1, r2, by unfold sel; rw [if_pos q]; exact e, k⟩
  · rw [if_neg q] at e
    exact b pins s σ H x y v u Q I rx ry ⟨G, d1, d2, r, sb, r1, r2, e, k⟩
theorem isC_ok {c : Nat} {d : D} (h : isC c d = true) : ∃ fs, d = .ins c fs := by
  unfold isC at h
  split at h
  · have := of_decide_eq_true h
    subst this
    exact ⟨_, rfl⟩
  · cases h
theorem sel_ok {g : D → D → Bool} {h1 : D → D → R Rv} {x y : D} {r : Rv} (e : sel g h1 no2 x y = .ok r) : g x y = true ∧ h1 x y = .ok r := by
  unfold sel at e
  by_cases q : g x y = true
  · rw [if_pos q] at e; exact ⟨q, e⟩
  · rw [if_neg q] at e; cases e
theorem sp2 {K : PySem.W.Frag} {F : Fn} {G H : Hp} {Q : VK} {v w : V} {d e : D} {r : Rv} (s : Sub G H) (r1 : Rep K A G v d) (r2 : Rep K A G w e) (h : F [d, e] = .ok r) (k : ∀ v G' H', Nx0 G H G' H' → RepN K A H G' H' v r → Q v H') : spF K A F 2 [v, w] H Q E := ⟨rfl, G, _, r, s, .cons r1 (.cons r2 .nil), h, k⟩
theorem hasTy_ok {d : D} (h : hasTy d = true) : ∃ t, tyD A d = some t := by
  cases d <;> first | exact ⟨_, rfl⟩ | cases h
theorem nf_D {K : PySem.W.Frag} {G : Hp} {v : V} {d : D} {t : Value} {c : Nat} (kd : KD K A) (hc : c ∈ A.cs) (r : Rep K A G v d) (e : tyD A d = some t) : PySem.W.notFirst K (A.ad c) t = true := by
  have nf := (kd.cf _ hc).nf
  cases r with
  | ins h l c' q => cases e; exact kd.nn _ hc _ c'
  | _ => first | (cases e; done) | (cases e; exact nf _ (by simp))
/-- own == -/
theorem o_eqC {F : Fn} {c : Nat} (kd : KD X.K A) (hc : c ∈ A.cs) (o : SL.OwnOp X.K (A.ad c) f "__eq__") (Fo : FnOk X.prog X.w X.K X.mg X.base CX k f fd ps (spF X.K A F 2)) (hr : Room k X.A) (hb : Binds X.K fd ps []) (hx : Passes CX X E) :
    OpR X (compareOp .Eq) (rD X.K A (sel (cany c) (fun x y => F [x, y]) no2)) := by
  intro pins s σ H x y v u Q I rx ry h
  obtain ⟨G, d1, d2, r, sb, r1, r2, e, k⟩ := h
  obtain ⟨q, e⟩ := sel_ok e
  unfold cany at q
  rw [Bool.and_eq_true] at q
  obtain ⟨f1, rfl⟩ := isC_ok q.1
  obtain ⟨t, ht⟩ := hasTy_ok (A := A) q.2
  cases id r1 with
  | ins hh => exact SL.op_eqOwn o Fo hr hb hx pins s σ H _ _ v u Q I rx ry ⟨_, _, _, t, rfl, sb.ins hh, rep_ty kd sb r2 ht, nf_D kd hc r2 ht, sp2 sb r1 r2 e k⟩
theorem o_neC {F : Fn} {c : Nat} (kd : KD X.K A) (hc : c ∈ A.cs) (o : SL.OwnOp X.K (A.ad c) f "__eq__") (hne : PySem.W.findIn X.K (.ref (A.ad c)) "__ne__" = some (some (.builtin "object.__ne__"))) (hob : PySem.W.subIn X.K (.ref (A.ad c)) (.type "object") = some true) (Fo : FnOk X.prog X.w X.K X.mg X.base CX k f fd ps (spF X.K A F 2)) (hr : Room (k + 1) X.A) (hb : Binds X.K fd ps []) (hx : Passes CX X E) :
    OpR X (compareOp .NotEq) (rD X.K A (neOf (sel (cany c) (fun x y => F [x, y]) no2))) := by
  intro pins s σ H x y v u Q I rx ry h
  obtain ⟨G, d1, d2, r, sb, r1, r2, e, kk⟩ := h
  obtain ⟨⟨r0, fr⟩, e1, e⟩ := bind_ok e
  obtain ⟨b, e2, e⟩ := bind_ok e
  cases e
  obtain ⟨q, e1⟩ := sel_ok e1
  unfold cany at q
  rw [Bool.and_eq_true] at q
  obtain ⟨f1, rfl⟩ := isC_ok q.1
  obtain ⟨t, ht⟩ := hasTy_ok (A := A) q.2
  obtain rfl := isB_ok e2
  cases id r1 with
  | ins hh =>
    refine SL.op_neOwn o hne hob Fo hr hb hx pins s σ H _ _ v u Q I rx ry ⟨_, _, _, t, rfl, sb.ins hh, rep_ty kd sb r2 ht, nf_D kd hc r2 ht, sp2 sb r1 r2 e1 fun v' G' H' n0 rn => ?_⟩
    have : fr = false := by
      cases fr with
      | false => rfl
      | true => obtain ⟨p, _, _, z, _⟩ := rn; exact z.elim
    subst this
    cases (show Rep X.K A G' v' (.bl b) from rn)
    exact ⟨b, rfl, kk _ G' H' n0 (RepR.of (.bl _))⟩
theorem neOf_sel {g : D → D → Bool} {h1 h2 : D → D → R Rv} (a : OpR X (compareOp .NotEq) (rD X.K A (neOf (sel g h1 no2)))) (b : OpR X (compareOp .NotEq) (rD X.K A (neOf h2))) : OpR X (compareOp .NotEq) (rD X.K A (neOf (sel g h1 h2))) := by
  intro pins s σ H x y v u Q I rx ry h
  obtain ⟨G, d1, d2, r, sb, r1, r2, e, k⟩ := h
  unfold neOf sel at e
  by_cases q : g d1 d2 = true
  · rw [if_pos q] at e
    exact a pins s σ H x y v u Q I rx ry ⟨G, d1, d2, r, sb, r1, r2, by unfold neOf sel; rw [if_pos q]; exact e, k⟩
  · rw [if_neg q] at e
    exact b pins s σ H x y v u Q I rx ry ⟨G, d1, d2, r, sb, r1, r2, e, k⟩
end
end DY

set_option Elab.async false
set_option linter.all false
set_option maxRecDepth 100000
set_option maxHeartbeats 4000000
namespace DY
open PySem L2 PySem.Spec PyProof.Rows
variable [Tb]
/-! ### targets -/
section
variable (K : PySem.W.Frag) (A : CT)
def liftG (ws : List Nat) (g : Tg) : TG := fun v σ H Q => ∃ G ρ d ρ', St K A σ G H ρ ∧ Rep K A G v d ∧ g d ρ = .ok ρ' ∧ ∀ σ', St K A σ' G H ρ' → (∀ i p, Own σ' ρ' i p → Own σ ρ i p) → σ'.length = σ.length → (∀ i, i ∉ ws → σ'[i]? = σ[i]?) → Q σ' H
def liftGs (ws : List Nat) (gs : List Tg) : TGs := fun vs σ H Q => ∃ G ρ ds ρ', St K A σ G H ρ ∧ Reps K A G vs ds ∧ gGo gs ds ρ = .ok ρ' ∧ ∀ σ', St K A σ' G H ρ' → (∀ i p, Own σ' ρ' i p → Own σ ρ i p) → σ'.length = σ.length → (∀ i, i ∉ ws → σ'[i]? = σ[i]?) → Q σ' H
end
section
variable {X : Cx} {A : CT} {pos : Pos}
theorem PG.imp {X : Cx} {e : Expr} {t t' : TG} (h : PG X e t) (k : ∀ v σ H Q, t' v σ H Q → t v σ H Q) : PG X e t' := ⟨fun pins s σ H v u Q I r q => h.run pins s σ H v u Q I r (k v σ H Q q)⟩
theorem PGs.imp {X : Cx} {e : List Expr} {t t' : TGs} (h : PGs X e t) (k : ∀ v σ H Q, t' v σ H Q → t v σ H Q) : PGs X e t' := ⟨fun pins s σ H v u Q I r q => h.run pins s σ H v u Q I r (k v σ H Q q)⟩
theorem pdg_name {i : Nat} {x : Str} (h : PG X (.Name x pos) (gName i)) : PG X (.Name x pos) (liftG X.K A [i] (gN i)) := PG.imp h fun v σ H Q q => by
  obtain ⟨G, ρ, d, ρ', s, r, e, k⟩ := q
  cases e
  exact k _ (s.store r).1 (fun k p z => ((s.store r).2 k p z).1) (List.length_set ..) fun k hk => List.getElem?_set_ne fun z => hk (by simp [z])
theorem pdgs_nil : PGs X [] (liftGs X.K A [] []) := PGs.imp pgs_nil fun v σ H Q q => by
  obtain ⟨G, ρ, d, ρ', s, r, e, k⟩ := q
  unfold gGo at e
  split at e
  · cases e; cases r; exact ⟨rfl, k σ s (fun _ _ z => z) rfl fun _ _ => rfl⟩
  · rename_i h; cases h
  · cases e
theorem pdgs_cons {e : Expr} {es : List Expr} {g : Tg} {gs : List Tg} {ws ws' : List Nat} (h1 : PG X e (liftG X.K A ws g)) (h2 : PGs X es (liftGs X.K A ws' gs))
    (hs : (assignEach (e :: es) X.env).map (·.2) = assign e X.env :: (assignEach es X.env).map (·.2) := by rfl) : PGs X (e :: es) (liftGs X.K A (ws ++ ws') (g :: gs)) := PGs.imp (pgs_cons h1 h2 hs) fun v σ H Q q => by
  obtain ⟨G, ρ, ds, ρ', s, r, e, k⟩ := q
  cases ds with
  | nil => unfold gGo at e; cases e
  | cons d ds =>
    obtain ⟨ρ1, e1, e⟩ := bind_ok e
    cases r with
    | cons r1 r2 =>
      refine ⟨_, _, rfl, G, ρ, d, ρ1, s, r1, e1, fun σ1 s1 o1 l1 w1 => ⟨G, ρ1, ds, ρ', s1, r2, e, fun σ2 s2 o2 l2 w2 => k σ2 s2 (fun i p z => o1 i p (o2 i p z)) (l2.trans l1) fun i hi => ?_⟩⟩
      rw [w2 i fun z => hi (List.mem_append_right _ z), w1 i fun z => hi (List.mem_append_left _ z)]
theorem gGo_len : ∀ {gs : List Tg} {ds : List D} {ρ ρ' : Env}, gGo gs ds ρ = .ok ρ' → ds.length = gs.length
  | [], [], _, _, _ => rfl
  | [], _ :: _, _, _, e => by unfold gGo at e; cases e
  | _ :: _, [], _, _, e => by unfold gGo at e; cases e
  | g :: gs, d :: ds, ρ, ρ', e => by
    obtain ⟨ρ1, e1, e⟩ := bind_ok e
    rw [List.length_cons, List.length_cons, gGo_len e]
theorem pdg_tup {es : List Expr} {k : Nat} {gs : List Tg} {ws : List Nat} (hc : X.calm = true) (h : PGs X es (liftGs X.K A ws gs))
    (hn : (assignEach es X.env).length = gs.length := by rfl) (hst : (assignEach es X.env).findIdx? (·.1) = none := by rfl) : PG X (.Tuple es k pos) (liftG X.K A ws (gT gs)) := PG.imp (pg_tup hc h hn hst) fun v σ H Q q => by
  obtain ⟨G, ρ, d, ρ', s, r, e, k⟩ := q
  unfold gT at e
  split at e
  · obtain ⟨p, vs, rfl, h1, q1⟩ := r.sqT s.sub
    exact ⟨p, vs, rfl, h1, by rw [q1.len]; exact gGo_len e, G, ρ, _, ρ', s, q1, e, k⟩
  · obtain ⟨p, vs, rfl, h1, q1⟩ := r.sqK s.sub
    exact ⟨p, vs, rfl, SqT.of h1, by rw [q1.len]; exact gGo_len e, G, ρ, _, ρ', s, q1, e, k⟩
  · cases e
/-- target = e -/
theorem pds_asgT {tg e : Expr} {me : Ev} {g : Tg} {ws : List Nat} {j : Option Nat} (he : PD A X e me) (hg : PG X tg (liftG X.K A ws g)) (hs : swapsWithSole [tg] e pos.line X.env = pure false := by rfl) (hw : swappedStores [tg] e X.env = pure none := by rfl)
    (h1 : (assignEach [tg] X.env).map (·.2) = [assign tg X.env] := by rfl) : PDS A j X (.Assign [tg] e pos) (sAsgT g me) := PS.imp (ps_asg he hg hs hw h1) fun D σ H h => by
  obtain ⟨B, G, ρ, o, ρ', s, e, k⟩ := h
  obtain ⟨⟨x, ρ1⟩, e1, e⟩ := bind_ok e
  obtain ⟨ρ2, e2, e⟩ := bind_ok e
  cases e
  refine use_val s.st e1 fun v G1 H1 n r => ?_
  have s1 := s.step n
  exact ⟨G1, ρ1, x, _, n.st, r, e2, fun σ' st' ow _ _ => k σ' G1 H1 ⟨st', s1.ext, fun i p z => s1.own i p (ow i p z)⟩⟩
end
/-! ### what is walked -/
section
variable (K : PySem.W.Frag) (A : CT)
def WalkD (Φ : Hp → Hp → Prop) (J : It) (ds : List D) : Prop := ∃ (Gd : Hp → Prop) (Y : Nat → Hp → V → Hp → Prop), Walk J ds.length Gd Y ∧ (∀ G H, Φ G H → Gd H) ∧
  ∀ i G H x H', i < ds.length → Φ G H → Y i H x H' → ∃ G2 d, Nx0 G H G2 H' ∧ ds[i]? = some d ∧ Rep K A G2 x d
/-- what is shared stays -/
def Keep (G0 : Hp) (G H : Hp) : Prop := L2.Same G0 G ∧ Sub G H
def liftI (m : Iv) : TI := fun σ H R => ∃ G ρ ds ρ', St K A σ G H ρ ∧ m ρ = .ok (ds, ρ') ∧ ∀ J G' H', Nx K A σ G H ρ G' H' ρ' → WalkD K A (Keep G') J ds → R J H'
end
abbrev PDI (A : CT) (X : Cx) (tg e : Expr) (m : Iv) : Prop := PI X tg e (liftI X.K A m)
section
variable {K : PySem.W.Frag} {A : CT} {G G' : Hp} {X : Cx} {tg e : Expr} {me : Ev} {p pos : Pos}
theorem walkD_at {J : It} {ds : List D} {vs : List V} {Gd : Hp → Prop} (w : Walk J vs.length Gd (YAt vs)) (hg : ∀ G H, L2.Same G' G → Sub G H → Gd H) (r : Reps K A G' vs ds) : WalkD K A (Keep G') J ds := by
  refine ⟨Gd, YAt vs, by rw [← r.len]; exact w, fun G H k => hg G H k.1 k.2, fun i G H x H' hi ⟨g, s⟩ y => ?_⟩
  obtain ⟨rfl, hx⟩ := y
  obtain ⟨d, h1, h2⟩ := r.get hx
  exact ⟨G, d, Nx0.refl s, h1, h2.mono g⟩
theorem pdi_val (he : PD A X e me) : PDI A X tg e (iVal me) := ⟨fun pins s σ H R I h => by
  obtain ⟨G, ρ, ds, ρ', st, e, k⟩ := h
  obtain ⟨⟨x, ρ1⟩, e1, e⟩ := bind_ok e
  obtain ⟨ds', e2, e⟩ := bind_ok e
  cases e
  unfold items at e2
  split at e2
  · cases e2
    refine (pi_list he).run pins s σ H R I (use_val st e1 fun v G1 H1 n r => ?_)
    cases r with | lst h q =>
    exact ⟨_, rfl, ⟨_, SqL.of (n.st.sub.lst h)⟩, k _ G1 H1 n (walkD_at walk_list (fun G H g s => SqL.of (s.lst (g _ _ h))) q)⟩
  · cases e2
    refine (pi_list he).run pins s σ H R I (use_val st e1 fun v G1 H1 n r => ?_)
    cases r with | fls h q =>
    exact ⟨_, rfl, ⟨_, n.st.sub.sqL h⟩, k _ G1 H1 n (walkD_at walk_list (fun G H g s => s.sqL (sqL_same g h)) q)⟩
  · cases e2
    refine (pi_tup he).run pins s σ H R I (use_val st e1 fun v G1 H1 n r => ?_)
    cases r with
    | tup nd h q => exact ⟨_, rfl, ⟨_, .inl (.inr ⟨_, n.st.sub.frt h⟩)⟩, k _ G1 H1 n (walkD_at walk_tup (fun G H g s => .inl (.inr ⟨_, s.frt (g _ _ h)⟩)) q)⟩
    | emp a b c d => exact ⟨_, rfl, ⟨_, sqT_emp a b d⟩, k _ G1 H1 n (walkD_at (vs := []) walk_tup (fun G H g s => sqT_emp a b d) .nil)⟩
  · rename_i l
    cases e2
    refine (pi_str he).run pins s σ H R I (use_val st e1 fun v G1 H1 n r => ?_)
    cases r
    refine ⟨_, rfl, k _ G1 H1 n ⟨_, _, by rw [List.length_map, show l.length = (S l).cps.size by simp [S]]; exact walk_str, fun _ _ _ => trivial, fun i G H x H' hi ⟨g, s⟩ y => ?_⟩⟩
    obtain ⟨rfl, c, hc, rfl⟩ := y
    have hc' : l[i]? = some c := by
      have : l.toArray[i]? = some c := hc
      simpa using this
    exact ⟨G, .str [c], Nx0.refl s, by rw [List.getElem?_map, hc']; rfl, .str [c]⟩
  · cases e2⟩
theorem rng_get : ∀ {n : Nat} {lo : Int} {i : Nat}, i < n → (rng lo n)[i]? = some (.int (lo + i))
  | 0, _, _, h => by omega
  | n + 1, lo, 0, _ => by show some (D.int lo) = _; simp
  | n + 1, lo, i + 1, h => by
    show (rng (lo + 1) n)[i]? = _
    rw [rng_get (by omega)]
    congr 2
    omega
theorem rng_len : ∀ {n : Nat} {lo : Int}, (rng lo n).length = n
  | 0, _ => rfl
  | n + 1, lo => by show (rng (lo + 1) n).length + 1 = _; rw [rng_len]
theorem walkD_rng {lo : Int} {n : Nat} : WalkD K A (Keep G) (Itr lo n) (rng lo n) := ⟨_, _, by rw [rng_len]; exact walk_range, fun _ _ _ => trivial, fun i G H x H' hi ⟨g, s⟩ y => by
  obtain ⟨rfl, rfl⟩ := y
  rw [rng_len] at hi
  exact ⟨G, _, Nx0.refl s, rng_get hi, .int _⟩⟩
theorem pdi_range1 {a : Expr} {ma : Ev} (hg : Gl X "range") (hm : X.mg "range" = none) (ha : PDA A X [a] [ma]) (hs : starEach [a] X.env = [(false, eval a X.env)] := by rfl) : PDI A X tg (.Call (.Name "range" p) [a] [] pos) (iRange [ma]) := ⟨fun pins s σ H R I h => (pi_range1 hg hm ha hs).run pins s σ H R I (by
  obtain ⟨G, ρ, ds, ρ', st, e, k⟩ := h
  obtain ⟨⟨xs, ρ1⟩, e1, e⟩ := bind_ok e
  refine ⟨G, ρ, xs, ρ1, st, e1, fun vs G1 H1 n r => ?_⟩
  dsimp only at e
  split at e
  · split at e
    · rename_i q
      cases e
      obtain ⟨v, rfl, rq⟩ := r.inv1
      cases rq
      exact ⟨_, rfl, q.1, q.2, k _ G1 H1 n walkD_rng⟩
    · cases e
  · have := evs_len e1; cases this
  · cases e)⟩
end
/-! ### for, while -/
section
variable {K : PySem.W.Frag} {A : CT} {j : Option Nat} {B : Bs} {G G' G1 G2 H H' H1 H2 : Hp} {σ σ' : L2.St} {ρ ρ1 ρ2 ρ' : Env}
theorem StF.rebase (s : StF K A j B σ G H ρ) : StF K A j { B with G := G } σ G H ρ := ⟨s.st, ⟨fun _ _ z => z, fun _ z => .inl z, s.ext.hs, s.ext.there⟩, s.own⟩
theorem StF.unbase (s : StF K A j B σ G1 H1 ρ1) (s' : StF K A j { B with G := G1 } σ' G' H' ρ') : StF K A j B σ' G' H' ρ' :=
  ⟨s'.st, ⟨s.ext.gs.trans s'.ext.gs, fun p z => (s'.ext.fr p z).elim (fun w => s.ext.fr p w) .inr, s'.ext.hs, s'.ext.there⟩, s'.own⟩
theorem forGo_cons {g : Tg} {body : Sv} {d : D} {ds : List D} {o : Out} (e : forGo g body (d :: ds) ρ = .ok (o, ρ')) : ∃ ρa ob ρb, g d ρ = .ok ρa ∧ body ρa = .ok (ob, ρb) ∧ ((ob = .nx ∨ ob = .ct) ∧ forGo g body ds ρb = .ok (o, ρ') ∨ (ob = .bk ∧ o = .nx ∧ ρ' = ρb) ∨ ∃ r, ob = .rt r ∧ o = .rt r ∧ ρ' = ρb) := by
  obtain ⟨ρa, e1, e⟩ := bind_ok e
  obtain ⟨⟨ob, ρb⟩, e2, e⟩ := bind_ok e
  refine ⟨ρa, ob, ρb, e1, e2, ?_⟩
  cases ob with
  | nx => exact .inl ⟨.inl rfl, e⟩
  | ct => exact .inl ⟨.inr rfl, e⟩
  | bk => cases e; exact .inr (.inl ⟨rfl, rfl, rfl⟩)
  | rt r => cases e; exact .inr (.inr ⟨r, rfl, rfl, rfl⟩)
theorem for_main {Φ : Hp → Hp → Prop} {J : It} {ds : List D} {ws : List Nat} {g : Tg} {body : Sv} {D : Ends} {o : Out} (s1 : StF K A j B σ G1 H1 ρ1) (wd : WalkD K A Φ J ds) (hΦ : ∀ σ' G' H' ρ', StF K A j { B with G := G1 } σ' G' H' ρ' → Φ G' H') (e : forGo g body ds ρ1 = .ok (o, ρ')) (k : SOut K A j B D o ρ') :
    ∃ W : Nat → Nat → L2.St → Hp → Prop, (∃ m, W 0 m σ H1) ∧ ∀ i m σ H, W i m σ H →
      (J.stop i H ∧ D.nx σ H) ∨ (J.go i H ∧ ∃ N : L2.St → Hp → Prop, (∀ σ' H', N σ' H' → ∃ m', m' < m ∧ W (i + 1) m' σ' H') ∧ ∀ x H', J.yld i H x H' → liftG K A ws g x σ H' fun σ2 H2 => liftS K A j body { D with nx := N, ct := N, bk := D.nx } σ2 H2) := by
  obtain ⟨Gd, Y, w, hG, hY⟩ := wd
  refine for_it w (fun i σ' H' => ∃ G' ρi, StF K A j { B with G := G1 } σ' G' H' ρi ∧ forGo g body (ds.drop i) ρi = .ok (o, ρ')) ⟨G1, ρ1, s1.rebase, e⟩ ?_ ?_ ?_
  · rintro i σ' H' _ ⟨G', ρi, s', _⟩
    exact hG G' H' (hΦ _ _ _ _ s')
  · rintro i x σ' H2 H3 hi ⟨G', ρi, s', e'⟩ y
    obtain ⟨G2, d, n0, hd, rx⟩ := hY i G' H2 x H3 hi (hΦ _ _ _ _ s') y
    have s2 := s'.step (s'.st.nx0 n0)
    rw [List.drop_eq_getElem_cons hi, (List.getElem?_eq_some_iff.mp hd).2] at e'
    obtain ⟨ρa, ob, ρb, ea, eb, ec⟩ := forGo_cons e'
    refine ⟨G2, ρi, d, ρa, s2.st, rx, ea, fun σ3 st3 ow3 _ _ => ⟨{ B with G := G1 }, G2, ρa, ob, ρb, ⟨st3, s2.ext, fun i p z => s2.own i p (ow3 i p z)⟩, eb, ?_⟩⟩
    rcases ec with ⟨hob, ec⟩ | ⟨rfl, rfl, rfl⟩ | ⟨r, rfl, rfl, rfl⟩
    · rcases hob with rfl | rfl
      · exact fun σ4 G4 H4 s4 => ⟨G4, ρb, s4, ec⟩
      · exact fun σ4 G4 H4 s4 => ⟨G4, ρb, s4, ec⟩
    · exact fun σ4 G4 H4 s4 => k σ4 G4 H4 (s1.unbase s4)
    · exact fun v σ4 G4 H4 s4 hr => k v σ4 G4 H4 (s1.unbase s4) hr
  · rintro σ' H' ⟨G', ρi, s', e'⟩
    rw [List.drop_length] at e'
    cases e'
    exact k σ' G' H' (s1.unbase s')
theorem for_use {it : Iv} {ws : List Nat} {g : Tg} {body : Sv} {D : Ends} (h : liftS K A j (sFor it g body) D σ H) : tFor (liftI K A it) (liftG K A ws g) (liftS K A j body) D σ H := by
  obtain ⟨B, G, ρ, o, ρ', s, e, k⟩ := h
  obtain ⟨⟨ds, ρ1⟩, e1, e⟩ := bind_ok e
  exact ⟨G, ρ, ds, ρ1, s.st, e1, fun J G1 H1 n wd => for_main (s.step n) wd (fun _ _ _ _ s' => ⟨s'.ext.gs, s'.st.sub⟩) e k⟩
theorem while_use {t : Ev} {body : Sv} {D : Ends} (h : liftS K A j (sWhile t body) D σ H) : tWhile (liftT K A t) (liftS K A j body) D σ H := by
  obtain ⟨B, G, ρ, o, ρ', s, e, k⟩ := h
  refine ⟨fun m σ' H' => ∃ G' ρm, StF K A j B σ' G' H' ρm ∧ whileGo t body m ρm = .ok (o, ρ'), ⟨fuel, G, ρ, s, e⟩, ?_⟩
  rintro m σ' H' ⟨G', ρm, s', e'⟩
  cases m with
  | zero => cases e'
  | succ m =>
    obtain ⟨⟨x, ρ1⟩, e1, e'⟩ := bind_ok (show (val t ρm >>= fun y => isB y.1 >>= fun c => if c then body y.2 >>= fun z => (match z.1 with | .nx => whileGo t body m z.2 | .ct => whileGo t body m z.2 | .bk => .ok (.nx, z.2) | .rt r => .ok (.rt r, z.2)) else .ok (.nx, y.2)) = .ok (o, ρ') from e')
    obtain ⟨c, e2, e'⟩ := bind_ok e'
    cases isB_ok e2
    refine ⟨G', ρm, c, ρ1, s'.st, e1, fun G1 H1 n => ?_⟩
    have s1 := s'.step n
    cases c with
    | false =>
      cases e'
      exact iteF (k σ' G1 H1 s1)
    | true =>
      refine iteT ⟨fun σ2 H2 => ∃ m', m' < m + 1 ∧ ∃ G2 ρ2, StF K A j B σ2 G2 H2 ρ2 ∧ whileGo t body m' ρ2 = .ok (o, ρ'), fun _ _ z => z, ?_⟩
      obtain ⟨⟨ob, ρb⟩, e3, e'⟩ := bind_ok (show (body ρ1 >>= fun z => (match z.1 with | .nx => whileGo t body m z.2 | .ct => whileGo t body m z.2 | .bk => .ok (.nx, z.2) | .rt r => .ok (.rt r, z.2))) = .ok (o, ρ') from e')
      refine ⟨B, G1, ρ1, ob, ρb, s1, e3, ?_⟩
      cases ob with
      | nx => exact fun σ4 G4 H4 s4 => ⟨m, Nat.lt_succ_self m, G4, ρb, s4, e'⟩
      | ct => exact fun σ4 G4 H4 s4 => ⟨m, Nat.lt_succ_self m, G4, ρb, s4, e'⟩
      | bk => cases e'; exact fun σ4 G4 H4 s4 => k σ4 G4 H4 s4
      | rt r => cases e'; exact fun v σ4 G4 H4 s4 hr => k v σ4 G4 H4 s4 hr
end
section
variable {X : Cx} {A : CT} {j : Option Nat} {tg iter c : Expr} {body : List Stmt} {m : Sv} {mi : Iv} {g : Tg} {ws : List Nat} {mc : Ev} {pos : Pos}
theorem pds_for (hp : PassesOwn (model X.prog X.w) X.A X.env X.xe) (hc : X.calm = true) (hi : PDI A X tg iter mi) (hg : PG X tg (liftG X.K A ws g)) (hb : PDSs A j X body m)
    (hs : ∀ x, foldedSetIterable iter X.env x = pure x := by intro _; rfl) : PDS A j X (.For tg iter body [] pos) (sFor mi g m) := PS.imp (ps_for hp hc hi hg hb hs) fun D σ H => for_use
theorem pds_while (hp : PassesOwn (model X.prog X.w) X.A X.env X.xe) (hc : PDT A X c mc) (hb : PDSs A j X body m) : PDS A j X (.While c body [] pos) (sWhile mc m) := PS.imp (ps_while hp hc hb) fun D σ H => while_use
end
end DY

set_option Elab.async false
set_option linter.all false
set_option maxRecDepth 100000
set_option maxHeartbeats 4000000
/-! ### comprehensions -/
namespace DY
open PySem L2 PySem.Spec PyProof.Rows
variable [Tb]
section
variable {K : PySem.W.Frag} {A : CT} {G G' G1 G2 H H' H1 H2 : Hp} {σ σ' σ2 : L2.St} {ρ ρ1 ρ2 ρ' : Env}
theorem St.un1 {i : Nat} (s : St K A σ G H ρ) : St K A (σ.set i none) G H (ρ.set i .un) ∧ ∀ k p, Own (σ.set i none) (ρ.set i .un) k p → Own σ ρ k p := by
  have ow : ∀ k p, Own (σ.set i none) (ρ.set i .un) k p → Own σ ρ k p := fun k p ⟨⟨d, h1⟩, h2⟩ => by
    by_cases e : i = k
    · subst e
      rw [List.getElem?_set_self'] at h1
      cases q : ρ[i]? with
      | none => rw [q] at h1; cases h1
      | some x => rw [q] at h1; cases (Option.some.inj h1)
    · rw [List.getElem?_set_ne e] at h1 h2
      exact ⟨⟨d, h1⟩, h2⟩
  refine ⟨⟨s.sub, by rw [List.length_set, List.length_set]; exact s.len, fun k z hz => ?_, fun a b p ha hb => s.dist a b p (ow a p ha) (ow b p hb)⟩, ow⟩
  by_cases e : i = k
  · subst e
    rw [List.getElem?_set_self'] at hz
    cases q : ρ[i]? with
    | none => rw [q] at hz; cases hz
    | some x => rw [q] at hz; cases (Option.some.inj hz); trivial
  · rw [List.getElem?_set_ne e] at hz
    have := s.slot k z hz
    rw [List.getD_eq_getElem?_getD, List.getElem?_set_ne e, ← List.getD_eq_getElem?_getD]
    exact this
theorem St.wipe : ∀ (vs : List Nat) {σ : L2.St} {ρ : Env}, St K A σ G H ρ → St K A (L2.wipe σ vs) G H (wipeS ρ vs) ∧ ∀ k p, Own (L2.wipe σ vs) (wipeS ρ vs) k p → Own σ ρ k p
  | [], _, _, s => ⟨s, fun _ _ z => z⟩
  | v :: vs, σ, ρ, s => by
    obtain ⟨s1, o1⟩ := St.wipe vs s
    obtain ⟨s2, o2⟩ := s1.un1 (i := v)
    exact ⟨s2, fun k p z => o1 k p (o2 k p z)⟩
theorem wipe_out : ∀ {vs : List Nat} {k : Nat}, k ∉ vs → (L2.wipe σ vs)[k]? = σ[k]?
  | [], _, _ => rfl
  | v :: vs, k, h => by
    show ((L2.wipe σ vs).set v none)[k]? = _
    rw [List.getElem?_set_ne fun z => h (by simp [z])]
    exact wipe_out fun z => h (List.mem_cons_of_mem _ z)
theorem wipe_in : ∀ {vs : List Nat} {k : Nat}, k ∈ vs → k < σ.length → (L2.wipe σ vs)[k]? = some none
  | v :: vs, k, h, hk => by
    show ((L2.wipe σ vs).set v none)[k]? = _
    by_cases e : v = k
    · subst e; rw [List.getElem?_set_self (by rw [wipe_length]; exact hk)]
    · rw [List.getElem?_set_ne e]
      exact wipe_in ((List.mem_cons.mp h).resolve_left fun z => e z.symm) hk
theorem wipeS_len : ∀ {vs : List Nat}, (wipeS ρ vs).length = ρ.length
  | [] => rfl
  | v :: vs => by show ((wipeS ρ vs).set v .un).length = _; rw [List.length_set, wipeS_len]
theorem wipeS_out : ∀ {vs : List Nat} {k : Nat}, k ∉ vs → (wipeS ρ vs)[k]? = ρ[k]?
  | [], _, _ => rfl
  | v :: vs, k, h => by
    show ((wipeS ρ vs).set v .un)[k]? = _
    rw [List.getElem?_set_ne fun z => h (by simp [z])]
    exact wipeS_out fun z => h (List.mem_cons_of_mem _ z)
theorem backS_len : ∀ {vs : List Nat}, (backS ρ1 ρ vs).length = ρ.length
  | [] => rfl
  | v :: vs => by show ((backS ρ1 ρ vs).set v _).length = _; rw [List.length_set, backS_len]
theorem backS_out : ∀ {vs : List Nat} {k : Nat}, k ∉ vs → (backS ρ1 ρ vs)[k]? = ρ[k]?
  | [], _, _ => rfl
  | v :: vs, k, h => by
    show ((backS ρ1 ρ vs).set v _)[k]? = _
    rw [List.getElem?_set_ne fun z => h (by simp [z])]
    exact backS_out fun z => h (List.mem_cons_of_mem _ z)
theorem backS_in : ∀ {vs : List Nat} {k : Nat} {z : Slot}, k ∈ vs → (backS ρ1 ρ vs)[k]? = some z → z = ρ1.getD k .un
  | v :: vs, k, z, h, hz => by
    have hz : ((backS ρ1 ρ vs).set v (ρ1.getD v .un))[k]? = some z := hz
    by_cases e : v = k
    · subst e
      rw [List.getElem?_set_self'] at hz
      cases q : (backS ρ1 ρ vs)[v]? with
      | none => rw [q] at hz; cases hz
      | some x => rw [q] at hz; exact (Option.some.inj hz).symm
    · rw [List.getElem?_set_ne e] at hz
      exact backS_in ((List.mem_cons.mp h).resolve_left fun z => e z.symm) hz
theorem wipe_eq {vs : List Nat} (hl : σ2.length = σ.length) (h : ∀ i, i ∉ vs → σ2[i]? = (L2.wipe σ vs)[i]?) : L2.wipe σ2 vs = L2.wipe σ vs := by
  refine List.ext_getElem? fun k => ?_
  by_cases e : k ∈ vs
  · by_cases hk : k < σ.length
    · rw [wipe_in e (by rw [hl]; exact hk), wipe_in e hk]
    · rw [List.getElem?_eq_none (by rw [wipe_length, hl]; omega), List.getElem?_eq_none (by rw [wipe_length]; omega)]
  · rw [wipe_out e, h k e]
theorem noOw_ok {vs : List Nat} (h : noOw ρ vs = true) {k : Nat} (hk : k ∈ vs) : ∃ z, ρ[k]? = some z ∧ ∀ d, z ≠ .ow d := by
  have := List.all_eq_true.mp h k hk
  cases q : ρ[k]? with
  | none => rw [q] at this; cases this
  | some z =>
    rw [q] at this
    refine ⟨z, rfl, fun d e => ?_⟩
    subst e; cases this
/-- a pending new object -/
theorem pend {p : Addr} {d : D} (no : ¬ OwnS σ ρ p) (g : G p = none) (h : Has K A G H p d) (n : Nx K A σ G H ρ G' H' ρ') : G' p = none ∧ Has K A G' H' p d := by
  refine ⟨?_, h.mono n.gs fun o z nt => n.ext.hs p o z no nt⟩
  cases z : G' p with
  | none => rfl
  | some u =>
    rcases n.ext.fr p (by rw [z]; exact fun x => nomatch x) with z | z | z
    · exact absurd g z
    · obtain ⟨o, ho⟩ := h.ex; rw [ho] at z; cases z
    · exact absurd z no
theorem pend0 {p : Addr} {d : D} (g : G p = none) (h : Has K A G H p d) (n : Nx0 G H G' H') : G' p = none ∧ Has K A G' H' p d := by
  refine ⟨?_, h.mono n.ext.gs fun o z nt => n.ext.hs p o z id nt⟩
  cases z : G' p with
  | none => rfl
  | some u =>
    rcases n.ext.fr p (by rw [z]; exact fun x => nomatch x) with z | z | z
    · exact absurd g z
    · obtain ⟨o, ho⟩ := h.ex; rw [ho] at z; cases z
    · exact z.elim
theorem St.updP {p : Addr} {o : HO} (s : St K A σ G H ρ) (g : G p = none) (no : ¬ OwnS σ ρ p) (tb : LamX.Tabs Tb.T (upd H p o)) : St K A σ G (upd H p o) ρ := by
  refine ⟨⟨fun q u z => ?_, tb, s.sub.nt, s.sub.bs⟩, s.len, fun k z hz => ?_, s.dist⟩
  · have ne : q ≠ p := fun e => by subst e; rw [g] at z; cases z
    rw [upd_ne ne]; exact s.sub q u z
  · have q := s.slot k z hz
    cases z with
    | un => trivial
    | sh d => exact q
    | ow d =>
      obtain ⟨p2, e1, n1, h1⟩ := q
      have ne : p2 ≠ p := fun z => no ⟨k, ⟨d, hz⟩, z ▸ getD_some e1⟩
      exact ⟨p2, e1, n1, h1.mono (fun _ _ z => z) fun u z _ => by rw [upd_ne ne]; exact z⟩
variable (K A) in
/-- while a comprehension runs: its new object stands at P and bears d -/
structure LI (σ : L2.St) (G1 H1 : Hp) (ρ1 : Env) (vs : List Nat) (P : Addr) (G H : Hp) (ρi : Env) (d : D) : Prop where
  ext : Ext (OwnS σ ρ1) G1 H1 G H
  st : St K A (L2.wipe σ vs) G H (wipeS ρi vs)
  own : ∀ k p, Own (L2.wipe σ vs) (wipeS ρi vs) k p → Own σ ρ1 k p
  gP : G P = none
  hP : Has K A G H P d
variable {vs : List Nat} {P : Addr} {d : D} {ρi : Env}
theorem LI.no (l : LI K A σ G1 H1 ρ1 vs P G H ρi d) (s1 : St K A σ G1 H1 ρ1) (hP : H1 P = none) : ∀ k, ¬ Own σ ρ1 k P := fun k z => OwnS.there s1 ⟨k, z⟩ hP
/-- one turn: target, test, element; o is the new object -/
theorem LI.turn {ρa ρb : Env} {G2 H2 G3 H3 : Hp} {d' : D} {o : HO} (l : LI K A σ G1 H1 ρ1 vs P G H ρi d) (s1 : St K A σ G1 H1 ρ1) (hP : H1 P = none) (n0 : Nx0 G H G2 H2) (hl : σ2.length = σ.length) (hw : ∀ i, i ∉ vs → σ2[i]? = (L2.wipe σ vs)[i]?)
    (ow : ∀ k p, Own σ2 ρa k p → Own (L2.wipe σ vs) (wipeS ρi vs) k p) (n : Nx K A σ2 G2 H2 ρa G3 H3 ρb) (new : Has K A G3 (upd H3 P o) P d') : LI K A σ G1 H1 ρ1 vs P G3 (upd H3 P o) ρb d' := by
  have noP : ¬ OwnS σ2 ρa P := fun ⟨k, z⟩ => l.no s1 hP k (l.own k P (ow k P z))
  have p2 := pend0 l.gP l.hP n0
  have p3 := pend noP p2.1 p2.2 n
  have noPb : ¬ OwnS σ2 ρb P := fun ⟨k, z⟩ => noP ⟨k, n.own k P z⟩
  have e1 := l.ext.trans n0.ext fun _ z => z.elim
  have e2 := e1.trans n.ext fun p ⟨k, z⟩ => .inl ⟨k, l.own k p (ow k p z)⟩
  obtain ⟨sw, ow2⟩ := St.wipe vs (n.st.updP (o := o) p3.1 noPb (by obtain ⟨o0, e0, n0⟩ := p3.2.nt; exact nT.up e0 n0 n.st.sub.tb))
  rw [wipe_eq hl hw] at sw ow2
  refine ⟨⟨e2.gs, e2.fr, fun q u z nn nt => ?_, fun q z => ?_⟩, sw, fun k p z => l.own k p (ow k p (n.own k p (ow2 k p z))), p3.1, new⟩
  · have ne : q ≠ P := ne_of_none z hP
    rw [upd_ne ne]; exact e2.hs q u z nn nt
  · by_cases e : q = P
    · subst e; rw [upd_same]; exact fun x => nomatch x
    · rw [upd_ne e]; exact e2.there q z
theorem LI.skip {ρa ρb : Env} {G2 H2 G3 H3 : Hp} (l : LI K A σ G1 H1 ρ1 vs P G H ρi d) (s1 : St K A σ G1 H1 ρ1) (hP : H1 P = none) (n0 : Nx0 G H G2 H2) (hl : σ2.length = σ.length) (hw : ∀ i, i ∉ vs → σ2[i]? = (L2.wipe σ vs)[i]?)
    (ow : ∀ k p, Own σ2 ρa k p → Own (L2.wipe σ vs) (wipeS ρi vs) k p) (n : Nx K A σ2 G2 H2 ρa G3 H3 ρb) : LI K A σ G1 H1 ρ1 vs P G3 H3 ρb d := by
  have noP : ¬ OwnS σ2 ρa P := fun ⟨k, z⟩ => l.no s1 hP k (l.own k P (ow k P z))
  have p2 := pend0 l.gP l.hP n0
  have p3 := pend noP p2.1 p2.2 n
  have e1 := l.ext.trans n0.ext fun _ z => z.elim
  have e2 := e1.trans n.ext fun p ⟨k, z⟩ => .inl ⟨k, l.own k p (ow k p z)⟩
  obtain ⟨sw, ow2⟩ := St.wipe vs n.st
  rw [wipe_eq hl hw] at sw ow2
  exact ⟨e2, sw, fun k p z => l.own k p (ow k p (n.own k p (ow2 k p z))), p3.1, p3.2⟩
theorem LI.begin {o : HO} (s1 : St K A σ G1 H1 ρ1) (hP : H1 P = none) (new : Has K A G1 (upd H1 P o) P d) : LI K A σ G1 H1 ρ1 vs P G1 (upd H1 P o) ρ1 d := by
  have gP := (upd_nx0 (o := o) s1.sub hP).2
  obtain ⟨sw, ow⟩ := St.wipe vs (s1.updP (o := o) gP (fun z => OwnS.there s1 z hP) (nT.new hP s1.sub.tb))
  refine ⟨⟨fun _ _ z => z, fun _ z => .inl z, fun q u z _ _ => by rw [upd_ne (ne_of_none z hP)]; exact z, fun q z => ?_⟩, sw, ow, gP, new⟩
  by_cases e : q = P
  · subst e; rw [upd_same]; exact fun x => nomatch x
  · rw [upd_ne e]; exact z
theorem LI.done (l : LI K A σ G1 H1 ρ1 vs P G H ρi d) (s1 : St K A σ G1 H1 ρ1) (hP : H1 P = none) (no : noOw ρ1 vs = true) (n1 : Nx K A σ G' H' ρ' G1 H1 ρ1) : Nx K A σ G' H' ρ' G H (backS ρ1 ρi vs) ∧ RepR K A (OwnS σ (backS ρ1 ρi vs)) H' G H (.ref P) (d, true) := by
  have hlen : (wipeS ρi vs).length = σ.length := by have := l.st.len; rw [wipe_length] at this; exact this.symm
  have inn : ∀ k ∈ vs, ∀ z, (backS ρ1 ρi vs)[k]? = some z → SlotOk K A G H (σ.getD k none) z ∧ ∀ d, z ≠ .ow d := fun k hk z hz => by
    obtain ⟨y, h1, h2⟩ := noOw_ok no hk
    have e := backS_in hk hz
    rw [List.getD_eq_getElem?_getD, h1] at e
    have e : z = y := e
    subst e
    refine ⟨?_, h2⟩
    have q := s1.slot k z h1
    cases z with
    | un => trivial
    | sh d => obtain ⟨v, a, b⟩ := q; exact ⟨v, a, b.mono l.ext.gs⟩
    | ow d => exact absurd rfl (h2 d)
  have out : ∀ k, k ∉ vs → ∀ p, Own σ (backS ρ1 ρi vs) k p → Own (L2.wipe σ vs) (wipeS ρi vs) k p := fun k hk p ⟨⟨d, h1⟩, h2⟩ => by
    rw [backS_out hk] at h1
    exact ⟨⟨d, by rw [wipeS_out hk]; exact h1⟩, by rw [wipe_out hk]; exact h2⟩
  have ow : ∀ k p, Own σ (backS ρ1 ρi vs) k p → Own (L2.wipe σ vs) (wipeS ρi vs) k p := fun k p z => by
    by_cases hk : k ∈ vs
    · obtain ⟨⟨d, h1⟩, _⟩ := z
      exact absurd rfl ((inn k hk _ h1).2 d)
    · exact out k hk p z
  have st : St K A σ G H (backS ρ1 ρi vs) := by
    refine ⟨l.st.sub, by rw [backS_len, ← wipeS_len (vs := vs)]; exact hlen.symm, fun k z hz => ?_, fun a b p ha hb => l.st.dist a b p (ow a p ha) (ow b p hb)⟩
    by_cases hk : k ∈ vs
    · exact (inn k hk z hz).1
    · rw [backS_out hk] at hz
      have := l.st.slot k z (by rw [wipeS_out hk]; exact hz)
      rw [List.getD_eq_getElem?_getD, wipe_out hk, ← List.getD_eq_getElem?_getD] at this
      exact this
  have nn : Nx K A σ G1 H1 ρ1 G H (backS ρ1 ρi vs) := ⟨l.ext, st, fun k p z => l.own k p (ow k p z)⟩
  refine ⟨n1.trans nn, later n1 (RepR.new l.gP l.hP (fun ⟨k, z⟩ => l.no s1 hP k (l.own k P (ow k P z))) hP)⟩
variable (K A) in
def liftC : Option Ev → TT
  | none => tYes
  | some m => liftT K A m
theorem cond_use {c : Option Ev} {b : Bool} {RR : Bool → Hp → Prop} (s : St K A σ G H ρ) (e : cond c ρ = .ok (b, ρ')) (k : ∀ G' H', Nx K A σ G H ρ G' H' ρ' → RR b H') : liftC K A c σ H RR := by
  cases c with
  | none => cases e; exact k G H (Nx.refl s)
  | some t =>
    obtain ⟨⟨x, ρ2⟩, e1, e⟩ := bind_ok e
    obtain ⟨b', e2, e⟩ := bind_ok e
    cases e
    obtain rfl := isB_ok e2
    exact ⟨G, ρ, b, _, s, e1, k⟩
theorem lcGo_cons {g : Tg} {c : Option Ev} {e : Ev} {ds acc accE : List D} {x : D} {ρE : Env} (h : lcGo g c e vs (x :: ds) acc ρ = .ok (accE, ρE)) : ∃ ρa b ρb, g x (wipeS ρ vs) = .ok ρa ∧ cond c ρa = .ok (b, ρb) ∧
    ((b = true ∧ ∃ y ρc, val e ρb = .ok (y, ρc) ∧ lcGo g c e vs ds (acc ++ [y]) ρc = .ok (accE, ρE)) ∨ (b = false ∧ lcGo g c e vs ds acc ρb = .ok (accE, ρE))) := by
  obtain ⟨ρa, e1, h⟩ := bind_ok h
  obtain ⟨⟨b, ρb⟩, e2, h⟩ := bind_ok h
  refine ⟨ρa, b, ρb, e1, e2, ?_⟩
  cases b with
  | true =>
    obtain ⟨⟨y, ρc⟩, e3, h⟩ := bind_ok (show (val e ρb >>= fun z => lcGo g c e vs ds (acc ++ [z.1]) z.2) = .ok (accE, ρE) from h)
    exact .inl ⟨rfl, y, ρc, e3, h⟩
  | false => exact .inr ⟨rfl, h⟩
theorem lc_main {Φ : Hp → Hp → Prop} {J : It} {ds accE : List D} {ρE : Env} {ws : List Nat} {g : Tg} {c : Option Ev} {e : Ev} {Q : VK} (hws : ∀ i ∈ ws, i ∈ vs) (s1 : St K A σ G1 H1 ρ1) (wd : WalkD K A Φ J ds) (hΦ : ∀ G H, Ext (OwnS σ ρ1) G1 H1 G H → Sub G H → Φ G H) (hno : noOw ρ1 vs = true) (hlen : ds.length ≤ 1000) (e2 : lcGo g c e vs ds [] ρ1 = .ok (accE, ρE))
    (k : ∀ v G' H', Nx K A σ G1 H1 ρ1 G' H' (backS ρ1 ρE vs) → RepR K A (OwnS σ (backS ρ1 ρE vs)) H1 G' H' v (.lst accE, true) → Q v H') :
    ∀ D, H1 D = none → ∃ W : Nat → Nat → Hp → Prop, (∃ m, W 0 m (upd H1 D (.lst []))) ∧ ∀ i m H, W i m H →
      (J.stop i H ∧ Q (.ref D) H) ∨ (J.go i H ∧ ∃ Nx : Hp → Prop, (∀ H', Nx H' → ∃ m', m' < m ∧ W (i + 1) m' H') ∧ ∀ x H', J.yld i H x H' → liftG K A ws g x (L2.wipe σ vs) H' fun σ2 H2 => L2.wipe σ2 vs = L2.wipe σ vs ∧ liftC K A c σ2 H2 fun b H3 =>
        if b = true then liftE K A e σ2 H3 fun y H4 => ∃ acc, H4 D = some (.lst acc) ∧ acc.length < sizeLine ∧ Nx (upd H4 D (.lst (acc ++ [y]))) else Nx H3) := by
  intro P hP
  obtain ⟨Gd, Y, w, hG, hY⟩ := wd
  refine lc_it w (Qd := fun H => Q (.ref P) H) (fun i H' => ∃ G' ρi acc, LI K A σ G1 H1 ρ1 vs P G' H' ρi (.lst acc) ∧ acc.length ≤ i ∧ lcGo g c e vs (ds.drop i) acc ρi = .ok (accE, ρE)) ⟨G1, ρ1, [], LI.begin s1 hP ⟨[], upd_same, .nil⟩, Nat.le_refl _, e2⟩ ?_ ?_ ?_
  · rintro i H' _ ⟨G', ρi, acc, l, _⟩
    exact hG G' H' (hΦ _ _ l.ext l.st.sub)
  · rintro i x H2 H3 hi ⟨G2, ρi, acc, l, hl, e2⟩ y
    obtain ⟨G3, d, n0, hd, rx⟩ := hY i G2 H2 x H3 hi (hΦ _ _ l.ext l.st.sub) y
    rw [List.drop_eq_getElem_cons hi, (List.getElem?_eq_some_iff.mp hd).2] at e2
    obtain ⟨ρa, b, ρb, ea, eb, ec⟩ := lcGo_cons e2
    refine ⟨G3, wipeS ρi vs, d, ρa, (l.st.nx0 n0).st, rx, ea, fun σ2 st2 ow2 hl2 hw2 => ?_⟩
    have hl2' : σ2.length = σ.length := by rw [hl2, wipe_length]
    have hw2' : ∀ i, i ∉ vs → σ2[i]? = (L2.wipe σ vs)[i]? := fun i hi => hw2 i fun z => hi (hws i z)
    refine ⟨wipe_eq hl2' hw2', cond_use st2 eb fun G4 H4 n4 => ?_⟩
    rcases ec with ⟨rfl, yv, ρc, ey, ec⟩ | ⟨rfl, ec⟩
    · refine iteT (use_val n4.st ey fun v G5 H5 n5 r5 => ?_)
      have n45 := n4.trans n5
      have noP : ¬ OwnS σ2 ρa P := fun ⟨k, z⟩ => l.no s1 hP k (l.own k P (ow2 k P z))
      have p3 := pend0 l.gP l.hP n0
      obtain ⟨gP, avs, hv, ra⟩ := pend noP p3.1 p3.2 n45
      exact ⟨avs, hv, small1000 (by rw [ra.len]; omega), G5, ρc, acc ++ [yv], l.turn s1 hP n0 hl2' hw2' ow2 n45 ⟨_, upd_same, ra.append (.cons r5 .nil)⟩, by rw [List.length_append]; exact Nat.succ_le_succ hl, ec⟩
    · exact iteF ⟨G4, ρb, acc, l.skip s1 hP n0 hl2' hw2' ow2 n4, Nat.le_succ_of_le hl, ec⟩
  · rintro H2 ⟨G2, ρi, acc, l, _, e2⟩
    rw [List.drop_length] at e2
    cases e2
    obtain ⟨nn, rr⟩ := l.done s1 hP hno (Nx.refl s1)
    exact k _ G2 H2 nn rr
theorem eLc_ok {it : Iv} {g : Tg} {c : Option Ev} {e : Ev} {r : Rv} (h : eLc it g c e vs ρ = .ok (r, ρ')) : ∃ ds ρ1 accE ρE, it ρ = .ok (ds, ρ1) ∧ noOw ρ1 vs = true ∧ ds.length ≤ 1000 ∧ lcGo g c e vs ds [] ρ1 = .ok (accE, ρE) ∧ r = (.lst accE, true) ∧ ρ' = backS ρ1 ρE vs := by
  obtain ⟨⟨ds, ρ1⟩, e1, h⟩ := bind_ok h
  dsimp only at h
  split at h
  · rename_i hno
    rw [Bool.and_eq_true] at hno
    obtain ⟨⟨accE, ρE⟩, e2, h⟩ := bind_ok h
    cases h
    exact ⟨ds, ρ1, accE, ρE, e1, hno.1, of_decide_eq_true hno.2, e2, rfl, rfl⟩
  · cases h
theorem lc_use {it : Iv} {ws : List Nat} {g : Tg} {c : Option Ev} {e : Ev} {Q : VK} (hws : ∀ i ∈ ws, i ∈ vs) (h : liftE K A (eLc it g c e vs) σ H Q) : tLc (liftI K A it) (liftG K A ws g) (liftC K A c) (liftE K A e) vs σ H Q := by
  obtain ⟨G, ρ, r, ρ', s, e0, k⟩ := h
  obtain ⟨ds, ρ1, accE, ρE, e1, hno, hlen, e2, rfl, rfl⟩ := eLc_ok e0
  exact ⟨G, ρ, ds, ρ1, s, e1, fun J G1 H1 n1 wd => lc_main hws n1.st wd (fun _ _ x y => ⟨x.gs, y⟩) hno hlen e2 fun v G' H' nn rr => k v G' H' (n1.trans nn) (later n1 rr)⟩
/-! ### the keys of a dict -/
/-! for over the keys -/
end
section
variable {X : Cx} {A : CT}
theorem pdts_nil : PTs X [] (liftC X.K A none) := pts_nil
theorem pd_lc {e : Expr} {it : Iv} {vs ws : List Nat} {g : Tg} {c : Option Ev} {m : Ev} (hws : ∀ i ∈ ws, i ∈ vs) (h : PE X e (tLc (liftI X.K A it) (liftG X.K A ws g) (liftC X.K A c) (liftE X.K A m) vs)) : PD A X e (eLc it g c m vs) := PE.imp h fun _ _ _ => lc_use hws
theorem pds_setlc {st : Stmt} {j : Option Nat} {it : Iv} {vs ws : List Nat} {g : Tg} {c : Option Ev} {m : Ev} {w : Bool} {i : Nat} (hws : ∀ i ∈ ws, i ∈ vs) (h : PS X st (tAsg (tLc (liftI X.K A it) (liftG X.K A ws g) (liftC X.K A c) (liftE X.K A m) vs) (gName i))) (hw : w = true → j ≠ some i) : PDS A j X st (sAsg w i (eLc it g c m vs)) := PS.imp h fun D σ H q => lc_use hws (set_use hw q)
end
end DY

set_option Elab.async false
set_option linter.all false
set_option maxRecDepth 100000
set_option maxHeartbeats 4000000
namespace DY
open PySem L2 PySem.Spec PyProof.Rows
variable [Tb]
/-- a value that no unfolding opens -/
noncomputable def shut {α : Type} (a : α) : α := (Classical.choice (⟨⟨a, rfl⟩⟩ : Nonempty {x : α // x = a})).1
theorem shut_eq {α : Type} (a : α) : shut a = a := (Classical.choice (⟨⟨a, rfl⟩⟩ : Nonempty {x : α // x = a})).2
/-! ### what the printer names -/
theorem mkFn_len {n p : Nat} {body : Sv} : ∀ ds r, mkFn n p body ds = .ok r → ds.length = p := fun ds r h => by
  unfold mkFn at h
  split at h
  · assumption
  · cases h
theorem mkFnR_len {n p j : Nat} {body : Sv} : ∀ ds d r, mkFnR n p j body ds d = .ok r → ds.length + 1 = p := fun ds d r h => by
  unfold mkFnR at h
  split at h
  · rename_i q; exact q.1
  · cases h
theorem u65 {k : Nat} {A : Around} (r : Room k A) : A.units + 65 < cLine := by have := r.un; omega
/-- values in the parameters' order -/
def prm {α : Type} (is : List Nat) (xs zs : List α) : List α := xs ++ is.filterMap (fun i => zs[i]?)
theorem prm_gv (is : List Nat) : GV (prm is) (prm is) := by
  refine ⟨fun {K A G vs zs ds es} h1 h2 => h1.append ?_⟩
  induction is with
  | nil => exact .nil
  | cons i is ih =>
    rw [List.filterMap_cons, List.filterMap_cons]
    cases e : zs[i]? with
    | none =>
      have : es[i]? = none := by
        rw [List.getElem?_eq_none_iff] at e ⊢
        rw [← h2.len]; exact e
      rw [this]; exact ih
    | some v =>
      obtain ⟨d, e2, r⟩ := h2.get e
      rw [e2]; exact .cons r ih
theorem vals_prm (is : List Nat) {vs zs : List V} {us ws : List Value} (h1 : Vals vs us) (h2 : Vals zs ws) : Vals (prm is vs zs) (prm is us ws) := by
  refine h1.append ?_
  induction is with
  | nil => exact .nil
  | cons i is ih =>
    rw [List.filterMap_cons, List.filterMap_cons]
    have key : ∀ {zs : List V} {ws : List Value}, Vals zs ws → ∀ i : Nat, (zs[i]? = none ∧ ws[i]? = none) ∨ ∃ v u, zs[i]? = some v ∧ ws[i]? = some u ∧ Vals [v] [u] := fun {zs ws} h => by
      induction h with
      | nil => intro i; exact .inl ⟨by simp, by simp⟩
      | cons a b ih =>
        intro i
        cases i with
        | zero => exact .inr ⟨_, _, rfl, rfl, .cons a .nil⟩
        | succ i => simpa using ih i
    rcases key h2 i with ⟨e1, e2⟩ | ⟨v, u, e1, e2, q⟩
    · rw [e1, e2]; exact ih
    · rw [e1, e2]
      exact Vals.append q ih
section
variable {K : PySem.W.Frag} {X : Cx} {A : CT} {pos pos' apos : Pos} {n : Nat} {a e f : Expr} {es : List Expr} {ma me mf : Ev} {ms : List Ev} {m : Str} {E : XK}
theorem nil_of {σ : L2.St} {H : Hp} {Q : List V → Hp → Prop} (h : liftA K A [] σ H Q) : tNil σ H Q := by
  obtain ⟨G, ρ, ds, ρ', s, e, k⟩ := h
  cases e
  exact k [] G H (Nx.refl s) .nil
theorem makeK_use0 {init : FnR} {c nk : Nat} {ks : List Ev} {gV : List V → List V → List V} {g : List D → List D → List D} {σ : L2.St} {H : Hp} {Q : VK} (hc : c ∈ A.cs) (hF : ∀ ds d r, init ds d = .ok r → ds.length + 1 = n) (hg : GV gV g) {gV' : List V → List V → List V} (hg' : ∀ x vs zs, gV' (x :: vs) zs = x :: gV vs zs) (h2 : nk = ks.length) (h : liftE K A (eNK (mkObj c init) g [] ks) σ H Q) :
    tMakeK (A.ad c) 0 nk (spR K A init n 0) gV' E tNil (liftA K A ks) σ H Q := nil_of (makeK_use hc hF hg hg' rfl h2 h)
/-! ### {} -/
def eC0 (d : D) : Ev := fun ρ => .ok ((d, true), ρ)
/-! ### f'..' -/
def fmtD : D → R Rv
  | .str s => if s.length ≤ 100000 then str_ s else .no
  | .int i => if i.natAbs.log2 < 1920 then str_ (figs i) else .no
  | _ => .no
def fcat (ds : List D) : R Rv := do
  let ss ← strsOf ds
  if (ss.map (·.length)).sum ≤ 100000 then str_ ss.flatten else .no
theorem pd_fmt (h : PD A X e me) : PD A X (.FormattedValue e (-1) none pos) (eUn fmtD me) := PE.imp (pe_fmt h) fun σ H Q q => by
  obtain ⟨G, ρ, r, ρ', s, e, k⟩ := q
  obtain ⟨⟨d, ρ1⟩, e1, e⟩ := bind_ok e
  obtain ⟨r', e2, e⟩ := bind_ok e
  cases e
  refine use_val s e1 fun v G1 H1 n1 r1 => ?_
  unfold fmtD at e2
  split at e2
  · split at e2
    · rename_i l hl
      cases r1
      cases e2
      exact .inl ⟨_, rfl, by rw [S_len]; exact Nat.le_trans hl (by decide), k _ G1 H1 n1 (RepR.of (.str _))⟩
    · cases e2
  · split at e2
    · rename_i hl
      cases r1
      cases e2
      exact .inr ⟨_, rfl, hl, by rw [figs_eq]; exact k _ G1 H1 n1 (RepR.of (.str _))⟩
    · cases e2
  · cases e2
theorem pd_joined1 (h : PD A X e me) : PD A X (.JoinedStr [e] pos) me := pe_joined1 h
theorem pdj_nil : PJ X [] ([].map (liftE X.K A)) := .nil
theorem pdj_cons (h : PD A X e me) (r : PJ X es (ms.map (liftE X.K A))) : PJ X (e :: es) ((me :: ms).map (liftE X.K A)) := .cons h r
theorem tjs_use {σ : L2.St} {R : Str → Hp → Prop} : ∀ (ms : List Ev) (acc : List Nat) (G H : Hp) (ρ ρ' : Env) (ds : List D) (ss : List (List Nat)), St K A σ G H ρ → evs ms ρ = .ok (ds, ρ') → strsOf ds = .ok ss → acc.length + (ss.map (·.length)).sum ≤ 100000 →
    (∀ G' H', Nx K A σ G H ρ G' H' ρ' → R (S (acc ++ ss.flatten)) H') → tJs (ms.map (liftE K A)) (S acc) σ H R
  | [], acc, G, H, ρ, ρ', ds, ss, s, e, e2, hl, k => by
    cases e
    cases e2
    have := k G H (Nx.refl s)
    show R (S acc) H
    simpa using this
  | m :: ms, acc, G, H, ρ, ρ', ds, ss, s, e, e2, hl, k => by
    obtain ⟨⟨d, ρ0⟩, e0, e⟩ := bind_ok e
    obtain ⟨⟨ds', ρ1⟩, e1, e⟩ := bind_ok e
    cases e
    unfold strsOf at e2
    split at e2
    · rename_i hh; cases hh
    · rename_i b ds2 hh
      cases hh
      obtain ⟨bs, e3, e2⟩ := bind_ok e2
      cases e2
      refine use_val s e0 fun v G1 H1 n1 r1 => ?_
      cases r1
      rw [List.map_cons, List.sum_cons] at hl
      refine ⟨_, rfl, ?_, ?_⟩
      · rw [S_app, S_len, List.length_append]
        exact Nat.le_trans (show acc.length + b.length ≤ 100000 by omega) (by decide)
      · rw [S_app]
        refine tjs_use ms _ G1 H1 _ _ _ _ n1.st e1 e3 (by rw [List.length_append]; omega) fun G' H' n2 => ?_
        have := k G' H' (n1.trans n2)
        rw [List.flatten_cons, ← List.append_assoc] at this
        exact this
    · cases e2
theorem pd_joined {v1 v2 : Expr} {rest : List Expr} (h : PJ X (v1 :: v2 :: rest) (ms.map (liftE X.K A))) : PD A X (.JoinedStr (v1 :: v2 :: rest) pos) (eN fcat ms) := PE.imp (pe_joined h) fun σ H Q q => by
  obtain ⟨G, ρ, r, ρ', s, e, k⟩ := q
  obtain ⟨⟨ds, ρ1⟩, e1, e⟩ := bind_ok e
  obtain ⟨r', e2, e⟩ := bind_ok e
  cases e
  obtain ⟨ss, e3, e2⟩ := bind_ok e2
  split at e2
  · rename_i hl
    cases e2
    refine tjs_use ms [] G H ρ _ ds ss s e1 e3 (by simpa using hl) fun G' H' n => ?_
    exact k _ G' H' n (RepR.of (.str _))
  · cases e2
end
/-! ### the law -/
/-- the script stands for a frozen list -/
theorem rep_script {K : PySem.W.Frag} {A : CT} {H : Hp} {p : Addr} {ns : List Int} (h : SqL K H p (ns.map V.int)) : Rep K A H (.ref p) (.fls (ns.map D.int)) := by
  refine .fls h ?_
  clear h
  induction ns with
  | nil => exact .nil
  | cons n ns ih => exact .cons (.int n) ih
theorem sqL_noTb {K : PySem.W.Frag} {H : Hp} {p : Addr} {vs : List V} (h : SqL K H p vs) : SqL K (noTb H) p vs := by
  rcases h with (h | ⟨o, h⟩) | h
  · exact .inl (.inl (noTb_ok h fun _ z => nomatch z))
  · exact .inl (.inr ⟨o, noTb_ok h fun _ z => nomatch z⟩)
  · exact .inr h
/-- the classes' attributes in the order of their writing -/
def nmsOf : Nat → List Str
  | 0 => ["top", "bottom"]
  | 1 => ["constant", "terms", "names"]
  | 2 => ["parts", "ties", "hooks", "strings", "names", "ways"]
  | 3 => ["puppet", "moves", "begin"]
  | 4 => ["script", "kept", "stages"]
  | 5 => ["form"]
  | 6 => ["names", "forms", "conditions", "known"]
  | 9 => ["columns", "basics", "rows", "scale"]
  | 7 => ["script", "wish", "overs", "reached", "taken", "truths", "gathered"]
  | 21 | 22 | 23 | 24 | 28 | 30 | 31 | 33 | 34 | 35 | 38 | 39 | 40 | 41 | 42 | 43 | 45 | 46 | 47 => ["value"]
  | 25 | 26 | 27 | 29 | 32 | 36 | 37 | 48 => ["index"]
  | 49 | 50 => ["given"]
  | 51 => ["weights"]
  | 57 => ["limit"]
  | _ => []
theorem nms_nd (c : Nat) : (nmsOf c).Nodup := by
  unfold nmsOf
  split <;> decide +kernel
def sp_law (K : PySem.W.Frag) : Sp := fun vs H Q _ => ∃ (p : Addr) (ns : List Int), vs = [.ref p] ∧ SqL K H p (ns.map V.int) ∧ ns.length ≤ 63 ∧ LamX.Tabs Tb.T H ∧ ∀ H', Q (.bl true) H'
theorem sp_of {K : PySem.W.Frag} {A : CT} {F : Fn} (hb : ∀ p, Tb.base p = none) (ht : ∀ ns : List Int, ns.length ≤ 63 → F [.fls (ns.map D.int)] = .ok (.bl true, false)) {vs : List V} {H : Hp} {Q : VK} {E : XK} (h : sp_law K vs H Q E) : spF K A F 1 vs H Q E := by
  obtain ⟨p, ns, rfl, hp, hl, ht', k⟩ := h
  refine ⟨rfl, noTb H, _, _, Sub.start ht' hb, .cons (rep_script (sqL_noTb hp)) .nil, ht ns hl, fun v G' H' _ rn => ?_⟩
  cases (show Rep K A G' v (.bl true) from rn)
  exact k H'
end DY

set_option Elab.async false
set_option linter.all false
set_option maxRecDepth 100000
set_option maxHeartbeats 4000000
namespace DY
local instance : Tb := { T := [] }
end DY

set_option Elab.async false
set_option linter.all false
set_option maxRecDepth 100000
set_option maxHeartbeats 4000000
/-! SLE: the law's end, from a contract of SLG. -/
namespace SL
open PySem L2 PySem.Spec PyProof.Rows
section
variable {P : Program} {w : World} {K : PySem.W.Frag} {mg mb : Str → Option Value} {CX : CXT} {k : Nat} {fa a : Addr} {fd : FuncData} {x : Str} {sp : Sp} {s₁ : Shared} {vs : List Value} {ns : List Int}
end
end SL

set_option Elab.async false
set_option linter.all false
set_option maxRecDepth 100000
set_option maxHeartbeats 4000000
/-! SLE2: the law's end with tables of code objects; a def whose code object is known. -/
namespace SL
open PySem L2 PySem.Spec PyProof.Rows LamX
section
variable {P : Program} {w : World} {K : PySem.W.Frag} {mg : Str → Option Value} {base : Heap} {x qual : Str} {f : Addr} {fd : FuncData} {N ps : List Str} {k : Nat} {sp : Sp}
end
section
variable {P : Program} {w : World} {K : PySem.W.Frag} {mg mb : Str → Option Value} {CX : CXT} {k : Nat} {fa a : Addr} {cs : List (Addr × Addr)} {fd : FuncData} {x : Str} {sp : Sp} {s₁ : Shared} {vs : List Value} {ns : List Int}
/-- the object at b is none of those that are tracked -/
theorem not_tracked {H : Hp} {b : Addr} {o : Obj} (ha : s₁.heap.get? a = some { cls := .type "list", data := .seq vs.toArray }) (hT : ∀ p ∈ cs, s₁.heap.get? p.2 = some { cls := .none, data := .fields #[] })
    (hA : ∀ b, H b ≠ none → b = a ∨ ∃ p ∈ cs, p.2 = b) (e : s₁.heap.get? b = some o) (h1 : ∀ us n, o.data ≠ .seq us n) (h2 : o.data ≠ .fields #[]) : H b = none :=
  Classical.byContradiction fun z => by
    rcases hA b z with rfl | ⟨p, hp, rfl⟩
    · rw [ha] at e; cases e; exact h1 _ _ rfl
    · rw [hT p hp] at e; cases e; exact h2 rfl
theorem env_topT {H : Hp} (KX : K.In s₁.heap) (hns : s₁.heap.Ns mainGlobals mg) (hb : s₁.heap.Ns builtinsNs mb) (hbb : ∀ x : Str, x ≠ "__name__" → mb x = bootBuiltins x) (hlim : s₁.heap.NoLimit) (hg : s₁.gens = #[])
    (hT : ∀ p ∈ cs, s₁.heap.get? p.2 = some { cls := .none, data := .fields #[] }) (nT : ∀ p ∈ cs, K.lookup p.2 = none) (C : ∀ p ∈ cs, PySem.W.CodeHd s₁.heap p.1 p.2)
    (hbm : ∃ (bm : Addr) (ob : Obj), mg "__builtins__" = some (.ref bm) ∧ bm ≠ builtinsNs ∧ s₁.heap.get? bm = some ob ∧ ob.cls = .type "module" ∧ ob.dict = some builtinsNs ∧ ob.data = .plain)
    (ha : s₁.heap.get? a = some { cls := .type "list", data := .seq vs.toArray }) (hok : HOk P w H s₁.heap) (hA : ∀ b, H b ≠ none → b = a ∨ ∃ p ∈ cs, p.2 = b) (hK : H a ≠ none → K.lookup a = none) :
    K.In (hidT s₁.heap H) ∧ (hidT s₁.heap H).Ns mainGlobals mg ∧ (∀ p ∈ cs, TabB (hidT s₁.heap H) mg p.1 p.2) ∧ Env0 P w K mg (hidT s₁.heap H) callerA [] s₁ H := by
  have nsK : ∀ {b : Addr} {m : Str → Option Value}, s₁.heap.Ns b m → (hidT s₁.heap H).Ns b m := fun {b m} ⟨o, es, ep, e, d, r⟩ =>
    ⟨o, es, ep, hidT_get e (not_tracked ha hT hA e (fun us n z => by rw [d] at z; cases z) fun z => by rw [d] at z; cases z), d, r⟩
  have hKb : K.In (hidT s₁.heap H) := fun b o e => hidT_get (KX b o e) (Classical.byContradiction fun z => by
    rcases hA b z with rfl | ⟨p, hp, rfl⟩
    · rw [hK z] at e; cases e
    · rw [nT p hp] at e; cases e)
  obtain ⟨mc, h1, h2⟩ := hlim
  refine ⟨hKb, nsK hns, fun p hp => ⟨?_, ?_, fun z => ?_⟩, ⟨rfl, ⟨hKb, nsK hns, ⟨mb, nsK hb, hbb⟩, ⟨mc, nsK h1, h2⟩⟩, fun b o e => of_hidT e, Nat.le_of_eq (hidT_size _ _), trivial, fun b hb => absurd (show b ∈ ([] : List Addr) from hb) (by simp), hok, .of_eq hg⟩⟩
  · obtain ⟨o, us, file, tf, flags, tg, inF, text, tt, e1, r1, r2, r3, rest⟩ := C p hp
    exact ⟨o, us, file, tf, flags, tg, inF, text, tt, hidT_get e1 (not_tracked ha hT hA e1 (fun us n z => by rw [r2] at z; cases z) fun z => by rw [r2] at z; cases z; simp at r3), r1, r2, r3, rest⟩
  · obtain ⟨bm, ob, b1, b2, b3, b4, b5, b6⟩ := hbm
    refine ⟨bm, ob, b1, b2, fun q => ?_, fun q => ?_, hidT_get b3 (not_tracked ha hT hA b3 (fun us n z => by rw [b6] at z; cases z) fun z => by rw [b6] at z; cases z), b4, b5, b6⟩
    · obtain ⟨o, es, ep, e, hd, _⟩ := hns
      rw [q, e] at b3; cases b3; rw [hd] at b6; cases b6
    · rw [q, hT p hp] at b3; cases b3; cases b6
  · obtain ⟨o, es, ep, e, hd, _⟩ := hns
    rw [z, hT p hp] at e; cases e; cases hd
theorem law_callT (KX : K.In s₁.heap) (hns : s₁.heap.Ns mainGlobals mg) (hb : s₁.heap.Ns builtinsNs mb) (hbb : ∀ x : Str, x ≠ "__name__" → mb x = bootBuiltins x) (hlim : s₁.heap.NoLimit) (hg : s₁.gens = #[])
    (hT : ∀ p ∈ cs, s₁.heap.get? p.2 = some { cls := .none, data := .fields #[] }) (nT : ∀ p ∈ cs, K.lookup p.2 = none) (C : ∀ p ∈ cs, PySem.W.CodeHd s₁.heap p.1 p.2)
    (hbm : ∃ (bm : Addr) (ob : Obj), mg "__builtins__" = some (.ref bm) ∧ bm ≠ builtinsNs ∧ s₁.heap.get? bm = some ob ∧ ob.cls = .type "module" ∧ ob.dict = some builtinsNs ∧ ob.data = .plain)
    (ha : s₁.heap.get? a = some { cls := .type "list", data := .seq vs.toArray }) (hi : IntsAre vs ns) (hl : ns.length ≤ sizeLine) (hr : Room k callerA)
    (F : ∀ base : Heap, K.In base → base.Ns mainGlobals mg → (∀ p ∈ cs, TabB base mg p.1 p.2) → FnOk P w K mg base CX k fa fd [x] sp) (hbind : ∀ (s : Shared) (u : Value), BindsTo s fd ⟨[u], []⟩ [(x, u)])
    (hsp : ∀ H : Hp, (∀ p ∈ cs, H p.2 = some (.tbl #[])) → SqL K H a (ns.map V.int) → sp [.ref a] H (fun v _ => v = .bl true) fun _ _ _ => False)
    (hCX : ∀ H e s', CX [] H s₁ (fun _ _ _ => False) e s' → False) :
    codeAny (model P w) callerA (.call (.ref fa) ⟨[.ref a], []⟩) (fun r s' => r = .ok (.ret (.bool true)) ∧ OldK s₁.heap s'.heap ∧ s'.os = s₁.os ∧ AllBare s'.gens) s₁ := by
  have rv := vals_ints hi
  have aT : ∀ p ∈ cs, p.2 ≠ a := fun p hp z => by
    have q := hT p hp
    rw [z, ha] at q
    cases (congrArg Obj.data (Option.some.inj q) : Data.seq vs.toArray _ = Data.fields #[])
  -- the script, if it is tracked at all, and the tables
  have go : ∀ S : Option HO, (S = none ∨ S = some (.frz { cls := .type "list", data := .seq vs.toArray } (.lst (ns.map V.int))) ∧ K.lookup a = none) → (∀ H : Hp, H a = S → SqL K H a (ns.map V.int)) →
      codeAny (model P w) callerA (.call (.ref fa) ⟨[.ref a], []⟩) (fun r s' => r = .ok (.ret (.bool true)) ∧ OldK s₁.heap s'.heap ∧ s'.os = s₁.os ∧ AllBare s'.gens) s₁ := by
    intro S hS hq
    classical
    let H : Hp := fun b => if b = a then S else if ∃ p ∈ cs, p.2 = b then some (.tbl #[]) else none
    have Ha : H a = S := if_pos rfl
    have Ht : ∀ p ∈ cs, H p.2 = some (.tbl #[]) := fun p hp => (if_neg (aT p hp)).trans (if_pos ⟨p, hp, rfl⟩)
    have cases3 : ∀ b u, H b = some u → (b = a ∧ S = some u) ∨ (∃ p ∈ cs, p.2 = b) ∧ u = .tbl #[] := fun b u z => by
      by_cases e : b = a
      · subst e; exact .inl ⟨rfl, Ha.symm.trans z⟩
      · by_cases e2 : ∃ p ∈ cs, p.2 = b
        · exact .inr ⟨e2, by have := (if_neg e).symm.trans z; rw [if_pos e2] at this; cases this; rfl⟩
        · have := (if_neg e).symm.trans z; rw [if_neg e2] at this; cases this
    have hok : HOk P w H s₁.heap := fun b u z => by
      rcases cases3 b u z with ⟨rfl, e⟩ | ⟨⟨p, hp, rfl⟩, rfl⟩
      · rcases hS with h | ⟨h, _⟩
        · rw [h] at e; cases e
        · rw [h] at e; cases e
          exact ⟨ha, by rw [List.length_map]; exact hl, vs, _, rv, ha⟩
      · exact hT p hp
    obtain ⟨h1, h2, h3, e0⟩ := env_topT (H := H) KX hns hb hbb hlim hg hT nT C hbm ha hok (fun b z => by
      cases q : H b with
      | none => exact absurd q z
      | some u => exact (cases3 b u q).imp (·.1) (·.1)) (fun z => by
      rcases hS with h | ⟨_, h⟩
      · exact absurd (Ha.trans h) z
      · exact h)
    refine codeAny_mono ((F _ h1 h2 h3).run callerA [] s₁ H ⟨[.ref a], []⟩ [.ref a] [.ref a] _ _ hr e0 (hbind s₁ (.ref a)) (.cons rfl .nil) (hsp H Ht (hq H Ha))) fun r s' h => ?_
    match r, h with
    | .error e, h => exact (hCX H e s' h).elim
    | .ok (.ret u), ⟨v, H', os, bare, un, hok', r', q⟩ =>
      subst q
      obtain rfl : u = Value.bool true := r'
      have grown : ∀ p ∈ cs, ∃ more : Array Value, s'.heap.get? p.2 = some { cls := .none, data := .fields more } := fun p hp => by
        obtain ⟨more, z⟩ := un.tbls p.2 #[] (Ht p hp)
        exact ⟨_, hok' p.2 _ z⟩
      have kept : ∀ b o, (¬ ∃ p ∈ cs, p.2 = b) → s₁.heap.get? b = some o → s'.heap.get? b = some o := fun b o nb e => by
        cases z : H b with
        | none => exact un.keep b o e z (by intro y; exact absurd (show b ∈ ([] : List Addr) from y) (by simp)) (by simp)
        | some u =>
          rcases cases3 b u z with ⟨rfl, e2⟩ | ⟨e2, _⟩
          · rcases hS with h | ⟨h, _⟩
            · rw [h] at e2; cases e2
            · rw [h] at e2; cases e2
              obtain ⟨y1, _⟩ := hok b _ z
              obtain ⟨y2, _⟩ := hok' b _ (un.frzs b _ _ z)
              rw [e] at y1; cases y1
              exact y2
          · exact absurd e2 nb
      refine ⟨rfl, ⟨fun b o e => ?_, fun b o e => ?_⟩, os, bare⟩
      · by_cases hb : ∃ p ∈ cs, p.2 = b
        · obtain ⟨p, hp, rfl⟩ := hb
          obtain ⟨more, hm⟩ := grown p hp
          rw [hT p hp] at e
          cases e
          exact .inr (.inl ⟨((C p hp).tab (hT p hp)).isCodeTable, rfl, #[], more, rfl, by rw [Array.empty_append]; exact hm⟩)
        · exact .inl (kept b o hb e)
      · by_cases hb : ∃ p ∈ cs, p.2 = b
        · obtain ⟨p, hp, rfl⟩ := hb
          obtain ⟨more, hm⟩ := grown p hp
          exact ⟨_, hm⟩
        · exact ⟨o, kept b o hb e⟩
  cases hk : K.lookup a with
  | some o =>
    have e := KX a o hk
    rw [ha] at e
    cases e
    exact go none (.inl rfl) fun H _ => .inr ⟨_, vs.toArray, _, hk, rfl, rfl, rfl, by rw [List.size_toArray, hi.length]; exact hl, by simpa using rv⟩
  | none => exact go _ (.inr ⟨rfl, hk⟩) fun H e => .inl (.inr ⟨_, e⟩)
end
/-- what is known of the law at the head's heap -/
def LawAtT (l : PySem.W.OpenLaw) (w : World) (K : PySem.W.Frag) (CX : CXT) (k n : Nat) (x : Str) (mg : Str → Option Value) (fa : Addr) (h : Heap) : Prop :=
  ∃ (fd : FuncData) (cs : List (Addr × Addr)) (sp : Sp), (∀ p ∈ cs, h.get? p.2 = some { cls := .none, data := .fields #[] }) ∧ (∀ p ∈ cs, K.lookup p.2 = none) ∧ (∀ p ∈ cs, PySem.W.CodeHd h p.1 p.2) ∧ (∀ (s : Shared) (u : Value), BindsTo s fd ⟨[u], []⟩ [(x, u)]) ∧
    (∀ (H : Hp) (a : Addr) (ns : List Int), ns.length ≤ n → (∀ p ∈ cs, H p.2 = some (.tbl #[])) → SqL K H a (ns.map V.int) → sp [.ref a] H (fun v _ => v = .bl true) fun _ _ _ => False) ∧
    ∀ base : Heap, K.In base → base.Ns mainGlobals mg → (∀ p ∈ cs, TabB base mg p.1 p.2) → FnOk l.prog w K mg base CX k fa fd [x] sp
theorem walk_ofT {l : PySem.W.OpenLaw} {n k : Nat} {q : Program} {loose : List Str} {XP : (Str → Option Value) → Heap → Prop} {YP : World → Heap → Prop} {d : DefRec} {K : Params → PySem.W.Frag} {CX : World → CXT} {x : Str} (hn : l.most = some n) (hn2 : n ≤ sizeLine) (hdf : d.params.defaults = []) (hr : Room k callerA) (hY : ∀ (w : World) (h : Heap), YP w h → (K w.params).In h)
    (F : ∀ (w : World) (mg : Str → Option Value) (fa : Addr) (h : Heap), (K w.params).In h → h.Ns mainGlobals mg → mg d.name = some (.ref fa) →
      (∀ (x : Str) (c P : Addr), ((recsOf q).any fun e => e.name == x) = true → PySem.W.tabIn (K w.params) x = some (c, P) → PySem.W.CodeHd h c P ∧ h.get? P = some { cls := .none, data := .fields #[] }) → LawAtT l w (K w.params) (CX w) k n x mg fa h)
    (hCX : ∀ (w : World) (H : Hp) (s : Shared) (e : Value) (s' : Shared), CX w [] H s (fun _ _ _ => False) e s' → False) :
    PySem.W.WalkO q loose XP YP l.row.toRowW d [] (fun f vs => PySem.call f vs) := Att.attach_callB hn hdf fun w s₀ s₁ mg mb fa o pm cd doc a vs ns G Y ho hd hcd hmg hobj hints hlen hbits hg => by
  have KX := hY w _ Y
  obtain ⟨fd, cs, sp, hT, nT, C, hb, hsp, hF⟩ := F w mg fa _ KX G.T.g hmg fun x c P hr ht => by
    cases e : (recsOf q).find? fun e => e.name == x with
    | none => rw [List.any_eq_true] at hr; obtain ⟨d, hd, hx⟩ := hr; exact absurd hx (List.find?_eq_none.mp e d hd)
    | some d => exact PySem.W.tab_of G.T KX e ht
  exact law_callT KX G.T.g G.T.b G.T.builtins G.T.nolimit hg hT nT C G.T.bmain hobj hints (Nat.le_trans hlen hn2) hr hF hb (fun H hH hS => hsp H a ns hlen hH hS) fun H e s' => hCX w H s₁ e s'
/-- tables that are empty tell nothing -/
theorem tabs_nil {H : Hp} {T : List (Addr × Str)} (h : ∀ p ∈ T, H p.1 = some (.tbl #[])) : Tabs T H := fun p hp => ⟨#[], h p hp, trivial, fun pos cv e => by cases e⟩
end SL

set_option Elab.async false
set_option linter.all false
set_option maxRecDepth 100000
set_option maxHeartbeats 4000000
/-! SLX: errors of the program: made and raised, caught, asked for their classes and what they keep -/
namespace SL
open PySem L2 PySem.Spec PyProof.Rows
/-! ### a class whose __init__ keeps its one argument under its name -/
section
variable {prog : Program} {w : World} {A : Around} {E : Value → Shared → Prop} {R : Result → Shared → Prop} {s : Shared} {K : PySem.W.Frag} {C fI : Addr} {n : Str}
end
section
variable {X : Cx} {C fI : Addr} {n x : Str} {e : Expr} {ta : TA} {p pos pos' : Pos}
end
end SL

set_option Elab.async false
set_option linter.all false
set_option maxRecDepth 100000
set_option maxHeartbeats 4000000
/-! SLX2: a try whose one clause takes all that comes -/
namespace SL
open PySem L2 PySem.Spec PyProof.Rows
section
variable {X : Cx} {n : Str} {m : Value → Bool} {t : Expr} {i : Nat} {body suite : List Stmt} {b₀ : Stmt} {pos pos' : Pos} {tb : WX → TS} {ts : Addr → Value → Option Addr → TS}
end
end SL

set_option Elab.async false
set_option linter.all false
set_option maxRecDepth 100000
set_option maxHeartbeats 4000000
/-! SLX3: a def that is called with the caught error, while it is handled -/
namespace SL
open PySem L2 PySem.Spec PyProof.Rows
section
variable {k : Nat} {A : Around}
end
/-- what such a def promises -/
abbrev SpX := Value → Option Addr → Hp → VK → Prop
section
variable {P : Program} {w : World} {K : PySem.W.Frag} {mg : Str → Option Value} {base : Heap} {x qual e : Str} {f : Addr} {fd : FuncData} {N : List Str} {k : Nat} {sp : SpX}
end
/-! ### isinstance, attributes -/
section
variable {X : Cx} {a C d : Addr} {oe : Obj} {n : Str} {e : Expr} {te : TE} {pos : Pos}
end
/-! ### g(e), in the suite -/
section
variable {X : Cx} {a f : Addr} {oe : Obj} {cls : Value} {d : Option Addr} {pn : List (Addr × Obj)} {x e : Str} {k i : Nat} {fd : FuncData} {sp : SpX} {p p2 pos : Pos}
end
end SL

set_option Elab.async false
set_option linter.all false
set_option maxRecDepth 100000
set_option maxHeartbeats 4000000
/-! SLX4: _law_told(lambda: ..) -/
namespace SL
open PySem L2 PySem.Spec PyProof.Rows LamX
section
variable {X : Cx} {pins : List (Addr × Obj)} {σ : L2.St} {H : Hp} {s : Shared}
end
/-! ### the def that tells what a call gives, or the error -/
section
variable {X : Cx}
end
end SL

set_option Elab.async false
set_option linter.all false
set_option maxRecDepth 100000
set_option maxHeartbeats 4000000
/-! SLX5: a lambda with parameters, called in the def that got it -/
namespace SL
open PySem L2 PySem.Spec PyProof.Rows LamX
section
variable {X : Cx} {pins : List (Addr × Obj)} {σ : L2.St} {H HZ : Hp} {s s1 : Shared}
end
end SL

set_option Elab.async false
set_option linter.all false
set_option maxRecDepth 100000
set_option maxHeartbeats 4000000
/-! ### enumerate over a tuple, a text -/
namespace DY
open PySem L2 PySem.Spec PyProof.Rows
variable [Tb]
/-! ### mirrors -/
def enumL : Nat → List D → List D
  | _, [] => []
  | n, d :: ds => .kt [.int (n : Nat), d] :: enumL (n + 1) ds
def iEn (e : Ev) : Iv := fun ρ => do
  let (x, ρ1) ← val e ρ
  let ds ← items x
  pure (enumL 0 ds, ρ1)
section
variable {K : PySem.W.Frag} {A : CT} {G G' : Hp} {X : Cx} {tg e : Expr} {me : Ev} {p pos tpos : Pos} {elts : List Expr} {kk : Nat}
end
end DY

set_option Elab.async false
set_option linter.all false
set_option maxRecDepth 100000
set_option maxHeartbeats 4000000
/-! ### {k: v, ..} -/
namespace DY
open PySem L2 PySem.Spec PyProof.Rows
variable [Tb]
section
variable {K : PySem.W.Frag} {A : CT} {G G' H H' : Hp} {σ : L2.St} {ρ ρ' : Env} {X : Cx} {pos : Pos} {j : Option Nat}
end
end DY

set_option Elab.async false
set_option linter.all false
set_option maxRecDepth 100000
set_option maxHeartbeats 4000000
/-! ### {k: v for ..}, the keys tuples: the kit's rule for dict comprehensions speaks of ints and texts alone; here the first object and the store are left open -/
namespace DY
open PySem L2 PySem.Spec PyProof.Rows
variable [Tb]
section
variable {X : Cx} {z : HO} {R : V → V → Addr → Hp → Hp → Prop} {kx vx tg iter : Expr} {ifs : List Expr} {scope : Scope} {own : List (Str × Nat)} {pos : Pos} {wi : TI} {g : TG} {tt : TT} {tk tv : TE}
end
end DY
namespace DY
open PySem L2 PySem.Spec PyProof.Rows
variable [Tb]
section
variable {K : PySem.W.Frag} {A : CT} {G G' G1 G2 H H' H1 H2 : Hp} {σ σ2 : L2.St} {ρ ρ1 ρ2 ρ' : Env} {vs : List Nat}
end
/-! ### a, b = x, y where a name is shared with a block -/
section
variable {X : Cx} {A : CT} {a b : Expr} {ma mb : Ev} {j : Option Nat} {pos : Pos}
end
end DY

set_option Elab.async false
set_option linter.all false
set_option maxRecDepth 100000
set_option maxHeartbeats 4000000
namespace DY
open PySem L2 PySem.Spec PyProof.Rows
variable [Tb]
/-! ### list(s), s a text: its signs -/
def listSD : List D → R Rv
  | [.str xs] => if xs.length ≤ 1000 then .ok (.lst (xs.map fun c => .str [c]), true) else .no
  | ds => listD ds
section
variable {X : Cx} {A : CT}
theorem call_listS (hc : X.calm = true) : CallR X (.type "list") (fun xs H Q => ∃ ys : List Nat, xs = [.str (S ys)] ∧ ys.length ≤ 1000 ∧ ∀ l, H l = none → Q (.ref l) (upd H l (.lst (ys.map fun c => V.str (S [c]))))) := by
  intro pins s σ H xs us Q I r h
  obtain ⟨ys, rfl, hz, q⟩ := h
  obtain ⟨u, rfl, rx⟩ := vals1 r
  obtain ⟨t, rfl⟩ := rx
  have sz : (S ys).cps.size = ys.length := by show ys.toArray.size = _; simp
  refine call_list_str (I.ok.hd hc) (S ys) t (fun h' tk acc c' hk e hi => ?_) (by rw [sz, sizeLine_eq]; omega)
  refine ⟨.ref s.heap.objs.size, upd H s.heap.objs.size (.lst (ys.map fun c => V.str (S [c]))), I.laid (t' := tk) hk (Nat.le_refl _) (show ObjOk X.prog X.w _ _ _ (.lst (ys.map fun c => V.str (S [c]))) from ⟨by rw [List.length_map, sizeLine_eq]; omega, acc.toList, c', ?_, by rw [Array.toArray_toList]; exact e⟩), rfl, q _ (I.hok.fresh (Nat.le_refl _))⟩
  refine vals_of_idx _ _ (by rw [List.length_map, Array.length_toList, hi.1, sz]) fun j u hj => ?_
  obtain ⟨c, t', hc, rfl⟩ := hi.2 j u (by rw [← Array.getElem?_toList]; exact hj)
  have hc' : ys[j]? = some c := by
    have : ys.toArray[j]? = some c := hc
    simpa using this
  exact ⟨.str (S [c]), by rw [List.getElem?_map, hc']; rfl, ⟨t', rfl⟩⟩
theorem reps_signs {K : PySem.W.Frag} {G : Hp} : ∀ ys : List Nat, Reps K A G (ys.map fun c => V.str (S [c])) (ys.map fun c => D.str [c])
  | [] => .nil
  | c :: ys => .cons (.str [c]) (reps_signs ys)
theorem o_listS (hc : X.calm = true) : CallR X (.type "list") (rDn X.K A listSD) := by
  intro pins s σ H xs us Q I r h
  obtain ⟨G, ds, r0, sb, rs, e, k⟩ := h
  by_cases z : ∃ ys, ds = [.str ys]
  · obtain ⟨ys, rfl⟩ := z
    obtain ⟨v1, rfl, r1⟩ := rs.inv1
    cases r1
    unfold listSD at e
    dsimp only at e
    split at e
    · rename_i hl
      cases e
      refine call_listS hc pins s σ H _ us Q I r ⟨_, rfl, hl, fun p n => ?_⟩
      obtain ⟨n0, rr⟩ := new_lst (K := X.K) (A := A) sb n (reps_signs ys)
      exact k _ _ _ n0 rr
    · cases e
  · have e2 : listSD ds = listD ds := by
      unfold listSD
      split
      · exact absurd ⟨_, rfl⟩ z
      · rfl
    rw [e2] at e
    exact o_list hc pins s σ H xs us Q I r ⟨G, ds, r0, sb, rs, e, k⟩
end
end DY

set_option Elab.async false
set_option linter.all false
set_option maxRecDepth 100000
set_option maxHeartbeats 4000000
namespace DY
open PySem L2 PySem.Spec PyProof.Rows
variable [Tb]
/-! ### xs[::-1] -/
section
variable {K : PySem.W.Frag} {A : CT} {σ : L2.St} {H : Hp} {Q : VK}
end
end DY

set_option Elab.async false
set_option linter.all false
set_option maxRecDepth 100000
set_option maxHeartbeats 4000000
namespace DY
open PySem L2 PySem.Spec PyProof.Rows
variable [Tb]
/-! ### repr of a list or tuple of plain data -/
section
variable {X : Cx} {A : CT}
end
end DY

set_option Elab.async false
set_option linter.all false
set_option maxRecDepth 100000
set_option maxHeartbeats 4000000
namespace DY
open PySem L2 PySem.Spec PyProof.Rows
variable [Tb]
/-! ### d.get(k) -/
section
variable {K : PySem.W.Frag} {A : CT} {σ : L2.St} {H : Hp} {Q : VK} {ma mk : Ev} {i : Nat}
end
section
variable {X : Cx} {A : CT} {x : Str} {pos' apos cpos : Pos} {i : Nat} {a e : Expr} {ma me : Ev}
end
end DY

set_option Elab.async false
set_option linter.all false
set_option maxRecDepth 100000
set_option maxHeartbeats 4000000
namespace DY
open PySem L2 PySem.Spec PyProof.Rows
variable [Tb]
/-! ### t[i::k], k written and neither 0 nor 1 -/
section
variable {prog : Program} {w : World} {A : Around} {E : Value → Shared → Prop} {s : Shared}
end
section
variable {X : Cx} {A : CT} {σ : L2.St} {H : Hp} {Q : VK}
theorem vals_fm {β : Type} {xs : List V} {us : List Value} (r : Vals xs us) (f : β → Nat) : ∀ l : List β, Vals (l.filterMap fun m => xs[f m]?) (l.filterMap fun m => us[f m]?)
  | [] => .nil
  | m :: l => by
    have ih := vals_fm r f l
    have hl := r.length
    rw [List.filterMap_cons, List.filterMap_cons]
    cases q : xs[f m]? with
    | none => rw [r.none_of q]; exact ih
    | some x =>
      obtain ⟨u, hu, ru⟩ := r.get q
      rw [hu]; exact .cons ru ih
theorem reps_fm {K : PySem.W.Frag} {β : Type} {G : Hp} {xs : List V} {ds : List D} (r : Reps K A G xs ds) (f : β → Nat) : ∀ l : List β, Reps K A G (l.filterMap fun m => xs[f m]?) (l.filterMap fun m => ds[f m]?)
  | [] => .nil
  | m :: l => by
    have ih := reps_fm r f l
    have get : ∀ {xs : List V} {ds : List D} (i : Nat), Reps K A G xs ds → (xs[i]? = none ∧ ds[i]? = none) ∨ ∃ x d, xs[i]? = some x ∧ ds[i]? = some d ∧ Rep K A G x d := fun {xs} => by
      induction xs with
      | nil => intro ds i h; cases h; exact .inl ⟨rfl, rfl⟩
      | cons x xs ihx =>
        intro ds i h
        cases h with
        | cons a r =>
          cases i with
          | zero => exact .inr ⟨_, _, rfl, rfl, a⟩
          | succ i => exact ihx i r
    rw [List.filterMap_cons, List.filterMap_cons]
    rcases get (f m) r with ⟨e1, e2⟩ | ⟨x, d, e1, e2, rr⟩
    · rw [e1, e2]; exact ih
    · rw [e1, e2]; exact .cons rr ih
end
end DY

set_option Elab.async false
set_option linter.all false
set_option maxRecDepth 100000
set_option maxHeartbeats 4000000
/-! ### an own dict is shown to an expression that keeps no hold of it -/
namespace DY
open PySem L2 PySem.Spec PyProof.Rows
variable [Tb]
section
variable {K : PySem.W.Frag} {A : CT} {G G' H H' : Hp} {σ : L2.St} {ρ ρ' : Env} {p : Addr}
end
end DY

set_option Elab.async false
set_option linter.all false
set_option maxRecDepth 100000
set_option maxHeartbeats 4000000
/-! ### errors: where a mirror ends with one -/
namespace DY
open PySem L2 PySem.Spec PyProof.Rows
variable [Tb]
section
variable (K : PySem.W.Frag) (A : CT)
end
theorem bind_ex {α β : Type} {r : R α} {f : α → R β} {d : D} (h : (r >>= f) = .ex d) : r = .ex d ∨ ∃ a, r = .ok a ∧ f a = .ex d := by
  cases r with
  | ok a => exact .inr ⟨a, rfl, h⟩
  | ex d' => cases h; exact .inl rfl
  | no => cases h
theorem val_ex {m : Ev} {ρ : Env} {d : D} : val m ρ = .ex d ↔ m ρ = .ex d := by
  unfold val
  constructor
  · intro h
    rcases bind_ex h with h | ⟨a, _, h⟩
    · exact h
    · cases h
  · intro h; rw [h]; rfl
section
variable {K : PySem.W.Frag} {A : CT} {G G' G1 G2 H H' H1 H2 : Hp} {σ : L2.St} {ρ ρ1 ρ2 ρ' : Env} {E : XK} {j : Option Nat} {B : Bs}
end
/-! ### what ends with no error -/
def NE (m : Ev) : Prop := ∀ ρ d, m ρ ≠ .ex d
def NEs (ms : List Ev) : Prop := ∀ ρ d, evs ms ρ ≠ .ex d
def NS (m : Sv) : Prop := ∀ ρ d, m ρ ≠ .ex d
def NI (m : Iv) : Prop := ∀ ρ d, m ρ ≠ .ex d
def NG (g : Tg) : Prop := ∀ x ρ d, g x ρ ≠ .ex d
def N1 (f : D → R Rv) : Prop := ∀ x d, f x ≠ .ex d
def N2 (f : D → D → R Rv) : Prop := ∀ x y d, f x y ≠ .ex d
def NN (f : List D → R Rv) : Prop := ∀ xs d, f xs ≠ .ex d
section
variable {X : Cx} {A : CT} {E : XK} {j : Option Nat} {e : Expr} {m : Ev} {s : Stmt} {ss : List Stmt} {ms : Sv}
end
theorem nex_b {α β : Type} {r : R α} {f : α → R β} (h : ∀ d, r ≠ .ex d) (k : ∀ a d, f a ≠ .ex d) (d : D) : (r >>= f) ≠ .ex d := fun z => by
  rcases bind_ex z with z | ⟨a, _, z⟩
  · exact h d z
  · exact k a d z
theorem ne_val {m : Ev} (h : NE m) (ρ : Env) (d : D) : val m ρ ≠ .ex d := fun z => h ρ d (val_ex.mp z)
theorem ne_isB (x d : D) : isB x ≠ .ex d := by cases x <;> exact fun z => nomatch z
theorem ne_look (ρ : Env) (i : Nat) (d : D) : look ρ i ≠ .ex d := fun z => by unfold look at z; split at z <;> cases z
theorem ne_pure {α : Type} {a : α} (d : D) : (pure a : R α) ≠ .ex d := fun z => nomatch z
section
variable {f g : D → D → R Rv} {f1 : D → R Rv} {fn : List D → R Rv} {a b c t : Ev} {ms : List Ev} {i : Nat}
theorem ne_var : NE (eVar i) := fun ρ d z => by unfold eVar at z; split at z <;> cases z
theorem ne_move : NE (eMove i) := fun ρ d z => by unfold eMove at z; split at z <;> cases z
theorem ne_c {x : D} : NE (eC x) := fun ρ d z => nomatch z
theorem ne_c0 {x : D} : NE (eC0 x) := fun ρ d z => nomatch z
theorem ne_bin (hf : N2 f) (ha : NE a) (hb : NE b) : NE (eBin f a b) := fun ρ d => nex_b (ne_val ha ρ) (fun x => nex_b (ne_val hb _) fun y => nex_b (hf _ _) fun _ => ne_pure) d
theorem ne_un (hf : N1 f1) (ha : NE a) : NE (eUn f1 a) := fun ρ d => nex_b (ne_val ha ρ) (fun x => nex_b (hf _) fun _ => ne_pure) d
theorem ne_bor (hf : N2 f) (hb : NE b) : NE (eBor f i b) := fun ρ d => nex_b (ne_look ρ i) (fun _ => nex_b (ne_val hb ρ) fun y => nex_b (ne_look _ i) fun _ => nex_b (hf _ _) fun _ => ne_pure) d
theorem ne_borR (hf : N2 f) (ha : NE a) : NE (eBorR f a i) := fun ρ d => nex_b (ne_val ha ρ) (fun y => nex_b (ne_look _ i) fun _ => nex_b (hf _ _) fun _ => ne_pure) d
theorem ne_bor1 (hf : N1 f1) : NE (eBor1 f1 i) := fun ρ d => nex_b (ne_look ρ i) (fun _ => nex_b (hf _) fun _ => ne_pure) d
theorem nes_nil : NEs [] := fun ρ d z => by cases (show R.ok (([] : List D), ρ) = .ex d from z)
theorem nes_cons (ha : NE a) (h : NEs ms) : NEs (a :: ms) := fun ρ d => nex_b (ne_val ha ρ) (fun _ => nex_b (h _) fun _ => ne_pure) d
theorem ne_n (hf : NN fn) (h : NEs ms) : NE (eN fn ms) := fun ρ d => nex_b (h ρ) (fun _ => nex_b (hf _) fun _ => ne_pure) d
theorem ne_if (ht : NE t) (ha : NE a) (hb : NE b) : NE (eIf t a b) := fun ρ d => nex_b (ne_val ht ρ) (fun x => nex_b (ne_isB _) fun c d => by cases c; exact hb _ d; exact ha _ d) d
theorem ne_and (ha : NE a) (hb : NE b) : NE (eAnd a b) := fun ρ d => nex_b (ne_val ha ρ) (fun x => nex_b (ne_isB _) fun c d => by cases c; exact fun z => nomatch z; exact hb _ d) d
theorem ne_or (ha : NE a) (hb : NE b) : NE (eOr a b) := fun ρ d => nex_b (ne_val ha ρ) (fun x => nex_b (ne_isB _) fun c d => by cases c; exact hb _ d; exact fun z => nomatch z) d
theorem ne_not (ha : NE a) : NE (eNot a) := fun ρ d => nex_b (ne_val ha ρ) (fun x => nex_b (ne_isB _) fun c => ne_pure) d
theorem ne_chain (hf : N2 f) (hg : N2 g) (ha : NE a) (hb : NE b) (hc : NE c) : NE (eChain f g a b c) := fun ρ d => nex_b (ne_val ha ρ) (fun x => nex_b (ne_val hb _) fun y => nex_b (hf _ _) fun r => nex_b (ne_isB _) fun k d => by cases k; exact fun z => nomatch z; exact nex_b (ne_val hc _) (fun z => nex_b (hg _ _) fun _ => ne_pure) d) d
theorem ne_get {h3 : D → D → D → R Rv} (hf : ∀ x y z d, h3 x y z ≠ .ex d) (ha : NE a) (hb : NE b) (hc : NE c) : NE (eGet h3 a b c) := fun ρ d => nex_b (ne_val ha ρ) (fun x => nex_b (ne_val hb _) fun y => nex_b (ne_val hc _) fun z => nex_b (hf _ _ _) fun _ => ne_pure) d
end
section
variable {g : Tg} {gs : List Tg} {it : Iv} {c : Option Ev} {e ek ev : Ev} {vs : List Nat} {i : Nat} {a b : Ev} {s s' : Sv} {w : Bool}
theorem ng_n : NG (gN i) := fun x ρ d z => nomatch z
theorem ng_go : (∀ g ∈ gs, NG g) → ∀ xs ρ d, gGo gs xs ρ ≠ .ex d := fun h => by
  induction gs with
  | nil => intro xs ρ d z; cases xs <;> cases z
  | cons g gs ih =>
    intro xs ρ d
    cases xs with
    | nil => exact fun z => nomatch z
    | cons x xs => exact nex_b (h g (List.mem_cons_self ..) x ρ) (fun ρ1 => ih (fun g hg => h g (List.mem_cons_of_mem _ hg)) xs ρ1) d
theorem ng_t (h : ∀ g ∈ gs, NG g) : NG (gT gs) := fun x ρ d z => by
  unfold gT at z
  split at z
  · exact ng_go h _ _ _ z
  · exact ng_go h _ _ _ z
  · cases z
theorem ngs_nil : ∀ g ∈ ([] : List Tg), NG g := fun g h => nomatch h
theorem ngs_cons (h : NG g) (r : ∀ g ∈ gs, NG g) : ∀ x ∈ g :: gs, NG x := fun x hx => by
  rcases List.mem_cons.mp hx with rfl | hx
  · exact h
  · exact r x hx
theorem ne_items (x d : D) : items x ≠ .ex d := by cases x <;> exact fun z => nomatch z
theorem ni_val (h : NE e) : NI (iVal e) := fun ρ d => nex_b (ne_val h ρ) (fun x => nex_b (ne_items _) fun _ => ne_pure) d
theorem ni_range {ms : List Ev} (h : NEs ms) : NI (iRange ms) := fun ρ d => nex_b (h ρ) (fun x d => by dsimp only; split <;> (try split) <;> exact fun z => nomatch z) d
theorem ni_en (h : NE e) : NI (iEn e) := fun ρ d => nex_b (ne_val h ρ) (fun x => nex_b (fun d z => ne_items _ _ z) fun _ => ne_pure) d
theorem ni_keys : NI (iKeys i) := fun ρ d z => by unfold iKeys at z; split at z <;> cases z
def NC : Option Ev → Prop
  | none => True
  | some t => NE t
theorem ne_cond (h : NC c) (ρ : Env) (d : D) : cond c ρ ≠ .ex d := by
  cases c with
  | none => exact fun z => nomatch z
  | some t => exact nex_b (ne_val h ρ) (fun x => nex_b (ne_isB _) fun _ => ne_pure) d
theorem ne_lc (hi : NI it) (hg : NG g) (hc : NC c) (he : NE e) : NE (eLc it g c e vs) := fun ρ d => nex_b (hi ρ) (fun x d => by
  dsimp only
  split
  · refine nex_b (fun d => ?_) (fun _ => ne_pure) d
    have : ∀ ds acc ρ d, lcGo g c e vs ds acc ρ ≠ .ex d := fun ds => by
      induction ds with
      | nil => exact fun _ _ _ z => nomatch z
      | cons x ds ih =>
        intro acc ρ d
        exact nex_b (hg x _) (fun ρ1 => nex_b (ne_cond hc _) fun k d => by
          dsimp only
          split
          · exact nex_b (ne_val he _) (fun y => ih _ _) d
          · exact ih _ _ d) d
    exact this _ _ _ _
  · exact fun z => nomatch z) d
theorem ns_next : NS sNext := fun ρ d z => nomatch z
theorem ns_no : NS sNo := fun ρ d z => nomatch z
theorem ns_seq (h : NS s) (h' : NS s') : NS (sSeq s s') := fun ρ d => nex_b (h ρ) (fun x d => by dsimp only; split; exact h' _ d; exact fun z => nomatch z) d
theorem ns_asg (h : NE e) : NS (sAsg w i e) := fun ρ d => nex_b (h ρ) (fun _ => ne_pure) d
theorem ns_expr (h : NE e) : NS (sExpr e) := fun ρ d => nex_b (ne_val h ρ) (fun _ => ne_pure) d
theorem ns_ret (h : NE e) : NS (sRet e) := fun ρ d => nex_b (h ρ) (fun _ => ne_pure) d
theorem ns_retV : NS (sRetV i) := fun ρ d => nex_b (ne_move ρ) (fun _ => ne_pure) d
theorem ns_retN : NS sRetN := fun ρ d z => nomatch z
theorem ns_if (ht : NE e) (ha : NS s) (hb : NS s') : NS (sIf e s s') := fun ρ d => nex_b (ne_val ht ρ) (fun x => nex_b (ne_isB _) fun c d => by cases c; exact hb _ d; exact ha _ d) d
theorem ns_asgT (hg : NG g) (h : NE e) : NS (sAsgT g e) := fun ρ d => nex_b (ne_val h ρ) (fun x => nex_b (hg _ _) fun _ => ne_pure) d
theorem ns_fld {cc k : Nat} (h : NE e) : NS (sFld cc k e) := fun ρ d => nex_b (ne_val h ρ) (fun x d => by dsimp only; split <;> (try split) <;> exact fun z => nomatch z) d
theorem ns_par {k : Nat} (ha : NE a) (hb : NE b) : NS (sPar w i k a b) := fun ρ d => nex_b (ha ρ) (fun x => nex_b (hb _) fun _ => ne_pure) d
end
/-! operations -/
theorem n2_no : N2 no2 := fun _ _ _ z => nomatch z
theorem n1_no : N1 no1 := fun _ _ z => nomatch z
theorem n2_add {own : D → D → R Rv} (h : N2 own) : N2 (addD own) := fun x y d z => by unfold addD at z; split at z <;> first | exact h _ _ _ z | (split at z <;> cases z) | cases z
theorem n2_sub {own : D → D → R Rv} (h : N2 own) : N2 (subD own) := fun x y d z => by unfold subD at z; split at z <;> first | exact h _ _ _ z | (split at z <;> cases z) | cases z
theorem n2_mul {own : D → D → R Rv} (h : N2 own) : N2 (mulD own) := fun x y d z => by unfold mulD at z; split at z <;> first | exact h _ _ _ z | (split at z <;> cases z) | cases z
theorem n2_fdiv : N2 fdivD := fun x y d z => by unfold fdivD at z; split at z <;> first | (split at z <;> cases z) | cases z
theorem n2_mod : N2 modD := fun x y d z => by unfold modD at z; split at z <;> first | (split at z <;> cases z) | cases z
theorem n2_pow : N2 powD := fun x y d z => by unfold powD at z; split at z <;> first | (split at z <;> cases z) | cases z
theorem n1_neg {own : D → R Rv} (h : N1 own) : N1 (negD own) := fun x d z => by unfold negD at z; split at z <;> first | exact h _ _ z | cases z
theorem n2_lt : N2 ltD := fun x y d z => by unfold ltD at z; split at z <;> cases z
theorem n2_le : N2 leD := fun x y d z => by unfold leD at z; split at z <;> cases z
theorem n2_gt : N2 gtD := fun x y d z => by unfold gtD at z; split at z <;> cases z
theorem n2_ge : N2 geD := fun x y d z => by unfold geD at z; split at z <;> cases z
theorem n2_eq {own : D → D → R Rv} (h : N2 own) : N2 (eqD own) := fun x y d z => by
  unfold eqD at z
  split at z
  · cases z
  · cases z
  · cases z
  · unfold eqG at z
    split at z
    · cases z
    · exact h _ _ _ z
theorem n2_ne {own : D → D → R Rv} (h : N2 own) : N2 (neD own) := fun x y d z => by
  unfold neD at z
  split at z
  · cases z
  · cases z
  · cases z
  · unfold neG at z
    split at z
    · cases z
    · exact nex_b (h _ _) (fun r => nex_b (ne_isB _) fun b d z => by cases z) d z
theorem n2_isN : N2 isN := fun x y d z => by unfold isN at z; split at z <;> cases z
theorem n2_notN : N2 notN := fun x y d z => by unfold notN at z; split at z <;> cases z
theorem ne_key (x d : D) : keyOf x ≠ .ex d := fun z => by cases x <;> cases z
theorem ne_keys : ∀ (xs : List D) (d : D), keysOf xs ≠ .ex d
  | [], d => fun z => by cases (show R.no = R.ex d from z)
  | [x], d => nex_b (ne_key x) (fun _ => ne_pure) d
  | x :: y :: xs, d => nex_b (ne_key x) (fun _ => nex_b (ne_keys (y :: xs)) fun _ => ne_pure) d
theorem ne_inB (x y d : D) : inB x y ≠ .ex d := fun z => by
  unfold inB at z
  split at z <;> first | exact nex_b (ne_keys _) (fun _ => ne_pure) d z | (split at z <;> cases z) | cases z
theorem n2_in : N2 inD := fun x y d => nex_b (ne_inB x y) (fun b d z => by cases z) d
theorem n2_nin : N2 ninD := fun x y d => nex_b (ne_inB x y) (fun b d z => by cases z) d
theorem ne_opt (o : Option D) (d : D) : opt o ≠ .ex d := by cases o <;> exact fun z => nomatch z
theorem n2_ix : N2 ixD := fun x y d z => by
  unfold ixD at z
  split at z <;> first | exact ne_opt _ _ z | (split at z <;> first | exact ne_opt _ _ z | cases z) | exact nex_b (ne_keys _) (fun _ => ne_opt _) d z | cases z
theorem ne_part {e : Option Ev} (h : NC e) (ρ : Env) (d : D) : part e ρ ≠ .ex d := by
  cases e with
  | none => exact fun z => by cases z
  | some e => exact nex_b (ne_val h ρ) (fun x d z => by dsimp only at z; split at z <;> cases z) d
theorem ne_slice {a : Ev} {lo hi : Option Ev} (ha : NE a) (hl : NC lo) (hh : NC hi) : NE (eSlice a lo hi) := fun ρ d => nex_b (ne_val ha ρ) (fun x => nex_b (ne_part hl _) fun l => nex_b (ne_part hh _) fun h => nex_b (fun d z => by unfold sliceD at z; split at z <;> first | (split at z <;> cases z) | cases z) fun _ => ne_pure) d
theorem n1_len {own : D → R Rv} (h : N1 own) : N1 (lenB own) := fun x d z => by unfold lenB at z; split at z <;> first | exact h _ _ z | (split at z <;> cases z) | cases z
theorem nn_len {own : D → R Rv} (h : N1 own) : NN (lenD own) := fun xs d z => by unfold lenD at z; split at z; exact n1_len h _ _ z; cases z
theorem nn_isi : NN isiD := fun xs d z => by unfold isiD at z; split at z <;> first | (split at z <;> cases z) | cases z
theorem nn_abs : NN absD := fun xs d z => by unfold absD at z; split at z <;> cases z
theorem nn_int : NN intD := fun xs d z => by unfold intD at z; split at z <;> cases z
theorem ne_bools : ∀ (xs : List D) (d : D), boolsOf xs ≠ .ex d
  | [], d => fun z => by cases (show R.ok _ = R.ex d from z)
  | x :: xs, d => fun z => by
    cases x <;> first | exact nex_b (ne_bools xs) (fun _ => ne_pure) d z | cases z
theorem nn_all : NN allD := fun xs d z => by unfold allD at z; split at z; exact nex_b (ne_bools _) (fun _ d z => by cases z) d z; cases z
theorem nn_any : NN anyD := fun xs d z => by unfold anyD at z; split at z; exact nex_b (ne_bools _) (fun _ d z => by cases z) d z; cases z
theorem ne_strs : ∀ (xs : List D) (d : D), strsOf xs ≠ .ex d
  | [], d => fun z => by cases (show R.ok _ = R.ex d from z)
  | x :: xs, d => fun z => by
    cases x <;> first | exact nex_b (ne_strs xs) (fun _ => ne_pure) d z | cases z
theorem nn_tuple : NN tupleD := fun xs d z => by unfold tupleD at z; split at z <;> cases z
theorem nn_tup : NN mkTup := fun xs d z => by unfold mkTup at z; split at z <;> cases z
theorem nn_lst : NN mkLst := fun xs d z => by unfold mkLst at z; split at z <;> cases z
theorem nn_mkey : NN mkKey := fun xs d z => by unfold mkKey at z; split at z <;> cases z
theorem n2_join : N2 joinB := fun x y d z => by
  unfold joinB joinD at z
  split at z
  · exact nex_b (ne_strs _) (fun _ d z => by split at z <;> cases z) d z
  · cases z
theorem n1_fld {c k : Nat} : N1 (fldD c k) := fun x d z => by unfold fldD at z; split at z; split at z; exact ne_opt _ _ z; cases z; cases z
theorem n3_get (x y z d : D) : dgetD x y z ≠ .ex d := fun h => by unfold dgetD at h; split at h <;> first | exact nex_b (ne_keys _) (fun _ _ z => by cases z) d h | cases h
/-! calls that are asked for no error -/
def npR {α : Type} : R α → R α
  | .ex _ => .no
  | r => r
theorem ne_np {α : Type} (r : R α) (d : D) : npR r ≠ .ex d := by cases r <;> exact fun z => nomatch z
/-- a def, asked for no error -/
def pF (F : Fn) : Fn := fun ds => npR (F ds)
def pR (F : FnR) : FnR := fun ds d => npR (F ds d)
def p2 (f : D → D → R Rv) : D → D → R Rv := fun x y => npR (f x y)
theorem nn_pF {F : Fn} : NN (pF F) := fun xs d => ne_np _ d
theorem n2_p {f : D → D → R Rv} : N2 (p2 f) := fun x y d => ne_np _ d
end DY

set_option Elab.async false
set_option linter.all false
set_option maxRecDepth 100000
set_option maxHeartbeats 4000000
/-! ### rules where an error comes -/
namespace DY
open PySem L2 PySem.Spec PyProof.Rows
variable [Tb]
section
variable {K : PySem.W.Frag} {A : CT} {G G' G1 G2 H H' H1 H2 : Hp} {σ : L2.St} {ρ ρ1 ρ2 ρ' : Env} {E : XK} {j : Option Nat} {B : Bs} {Q Q' : VK} {ma mb : Ev} {ms : List Ev}
end
section
variable {X : Cx} {A : CT} {CX : CXT} {k n : Nat} {f C : Addr} {fd : FuncData} {ps knm : List Str} {E : XK} {x m : Str} {p pos apos : Pos} {a b e : Expr} {es : List Expr} {ma mb : Ev} {ms ks : List Ev} {kws : List Keyword}
/-! methods -/
end
end DY

set_option Elab.async false
set_option linter.all false
set_option maxRecDepth 100000
set_option maxHeartbeats 4000000
namespace DY
open PySem L2 PySem.Spec PyProof.Rows
variable [Tb]
section
variable {X : Cx} {A : CT} {E : XK} {j : Option Nat} {st : Stmt} {rest : List Stmt} {m m' : Sv} {e c : Expr} {me mc : Ev} {pos pos' : Pos}
/-! a loop -/
end
/-! ### a def's promise -/
section
variable {K : PySem.W.Frag} {A : CT} {H : Hp} {Q : VK}
end
end DY

set_option Elab.async false
set_option linter.all false
set_option maxRecDepth 100000
set_option maxHeartbeats 4000000
namespace DY
open PySem L2 PySem.Spec PyProof.Rows LamX
/-! ### what a lambda sees: the slots that it names, their objects given up -/
variable [Tb]
section
variable {K : PySem.W.Frag} {A : CT} {G G' G1 G2 H H' H1 H2 : Hp} {σ : L2.St} {ρ ρ1 ρ2 ρ' : Env} {Q Q' : VK}
end
end DY

set_option Elab.async false
set_option linter.all false
set_option maxRecDepth 100000
set_option maxHeartbeats 4000000
/-! ### the def that tells the classes and the attribute of an error -/
namespace DY
open PySem L2 PySem.Spec PyProof.Rows LamX
section
variable {K : PySem.W.Frag} {A A' : CT} {G : Hp}
def isStr : D → Bool
  | .str _ => true
  | _ => false
def texts : D → Bool
  | .lst ds => ds.all isStr
  | _ => false
end
variable [Tb]
section
variable {X : Cx} {A : CT} {c : Nat} {x : D} {e : Expr} {me : Ev} {pos : Pos}
end
section
variable {P : Program} {w : World} {K : PySem.W.Frag} {mg : Str → Option Value} {base : Heap} {x qual e : Str} {f : Addr} {fd : FuncData} {N : List Str} {k n : Nat} {A : CT} {mb : Nat → D → Sv} {l : List Nat}
end
end DY

set_option Elab.async false
set_option linter.all false
set_option maxRecDepth 100000
set_option maxHeartbeats 4000000
/-! ### told(lambda: ..); defs that are asked for no error -/
namespace DY
open PySem L2 PySem.Spec PyProof.Rows LamX
variable [Tb]
section
variable {X : Cx} {A : CT}
theorem pe_or {e : Expr} {t t' : TE} (h : PE X e t) (h' : PE X e t') : PE X e (fun σ H Q => t σ H Q ∨ t' σ H Q) := ⟨fun pins s σ H Q I q => q.elim (h.run pins s σ H Q I) (h'.run pins s σ H Q I)⟩
end
/-! raise, where no error is asked for -/
/-! a def that is asked for no error -/
section
variable {P : Program} {w : World} {K : PySem.W.Frag} {mg : Str → Option Value} {base : Heap} {CX : CXT} {k n j : Nat} {f : Addr} {fd : FuncData} {ps : List Str} {A : CT}
end
section
variable {f : D → D → R Rv} {F : Fn} {FR : FnR} {a : Ev} {ms ks : List Ev} {i c : Nat} {g : List D → List D → List D}
theorem ne_isIns (x d : D) : isIns c x ≠ .ex d := fun z => by unfold isIns at z; split at z <;> (try split at z) <;> cases z
theorem ne_meth (hf : NN F) (ha : NE a) (hm : NEs ms) : NE (eMeth c F a ms) := fun ρ d => nex_b (ne_val ha ρ) (fun x => nex_b (ne_isIns _) fun _ => nex_b (hm _) fun _ => nex_b (hf _) fun _ => ne_pure) d
theorem ne_methK (hf : NN F) (ha : NE a) (hm : NEs ms) (hk : NEs ks) : NE (eMethK c F g a ms ks) := fun ρ d => nex_b (ne_val ha ρ) (fun x => nex_b (ne_isIns _) fun _ => nex_b (hm _) fun _ => nex_b (hk _) fun _ => nex_b (hf _) fun _ => ne_pure) d
theorem ne_nk (hf : NN F) (hm : NEs ms) (hk : NEs ks) : NE (eNK F g ms ks) := fun ρ d => nex_b (hm ρ) (fun _ => nex_b (hk _) fun _ => nex_b (hf _) fun _ => ne_pure) d
theorem nn_mk {init : FnR} : NN (mkObj c (pR init)) := fun xs d => nex_b (ne_np _) (fun r d z => by dsimp only at z; split at z <;> cases z) d
theorem nn_mkD {init : FnR} {dds : List D} : NN (fun xs => mkObj c (pR init) (xs ++ dds)) := fun xs d => nn_mk _ d
theorem ne_callR (hm : NEs ms) (hk : NEs ks) : NE (eCallR (pR FR) ms i ks) := fun ρ d => nex_b (ne_look ρ i) (fun _ => nex_b (hm _) fun _ => nex_b (hk _) fun _ d z => by
  dsimp only at z
  split at z
  · exact nex_b (ne_np _) (fun _ => ne_pure) d z
  · cases z) d
theorem ne_app (hm : NEs ms) : NE (eMut appendM i ms) := fun ρ d => nex_b (ne_look ρ i) (fun _ => nex_b (fun d z => by unfold isL at z; split at z <;> cases z) fun _ => nex_b (hm _) fun _ d z => by
  dsimp only at z
  split at z
  · exact nex_b (fun d z => by unfold appendM at z; split at z <;> (try split at z) <;> cases z) (fun _ => ne_pure) d z
  · cases z) d
end
end DY

set_option Elab.async false
set_option linter.all false
set_option maxRecDepth 100000
set_option maxHeartbeats 4000000
/-! ### list.count of truths -/
namespace DY
open PySem L2 PySem.Spec PyProof.Rows LamX
variable [Tb]
theorem n2_sel {g : D → D → Bool} {f h : D → D → R Rv} (hf : N2 f) (hh : N2 h) : N2 (sel g f h) := fun x y d z => by
  unfold sel at z
  split at z
  · exact hf _ _ _ z
  · exact hh _ _ _ z
theorem n1_sel1 {g : D → Bool} {f h : D → R Rv} (hf : N1 f) (hh : N1 h) : N1 (sel1 g f h) := fun x d z => by
  unfold sel1 at z
  split at z
  · exact hf _ _ z
  · exact hh _ _ z
theorem n2_pF {F : Fn} : N2 fun x y => pF F [x, y] := fun x y d => nn_pF _ d
theorem n2_pFs {F : Fn} : N2 fun x y => pF F [y, x] := fun x y d => nn_pF _ d
theorem n1_pF {F : Fn} : N1 fun x => pF F [x] := fun x d => nn_pF _ d
section
variable {X : Cx} {A : CT} {o e : Expr} {mo me : Ev} {apos pos : Pos}
end
section
variable {X : Cx} {A : CT} {o e : Expr} {mo me : Ev} {apos pos : Pos}
end
end DY

set_option Elab.async false
set_option linter.all false
/-! LP1: sums, determinants -/
namespace LP
def sm : Nat → (Nat → Int) → Int
  | 0, _ => 0
  | n + 1, g => sm n g + g n
/-! ### determinants -/
abbrev Vec := Nat → Int
def skip (i a : Nat) : Nat := if a < i then a else a + 1
def bnd (B : Nat) : Nat → Nat
  | 0 => 1
  | m + 1 => (m + 1) * (B * bnd B m)
end LP

set_option Elab.async false
set_option linter.all false
/-! LP2: tables, the exchange of a column with a row -/
namespace LP
structure Tab where
  cols : List Nat
  bas : List (Option Nat)
  rows : List (List Int)
  sc : Int
def Tab.R (t : Tab) (i j : Nat) : Int := (t.rows.getD i []).getD j 0
def clearedL (row own : List Int) (p : Nat) (sc : Int) : List Int :=
  ((List.range row.length).map fun k => ((if own.getD p 0 > 0 then 1 else -1) * (own.getD p 0 * row.getD k 0 - row.getD p 0 * own.getD k 0)).fdiv sc).set p ((if own.getD p 0 > 0 then 1 else -1) * row.getD p 0)
def turnedL (own : List Int) (p : Nat) (sc : Int) : List Int := (own.map fun x => -(if own.getD p 0 > 0 then 1 else -1) * x).set p ((if own.getD p 0 > 0 then 1 else -1) * sc)
def exchange (t : Tab) (i p : Nat) : Tab :=
  { cols := t.cols.set p ((t.bas.getD i none).getD 0), bas := t.bas.set i (some (t.cols.getD p 0)),
    rows := (t.rows.map fun row => clearedL row (t.rows.getD i []) p t.sc).set i (turnedL (t.rows.getD i []) p t.sc), sc := ((t.R i p).natAbs : Int) }
section
variable (f g : Nat → Vec) (e : Vec)
/-- what row i tells -/
def Fn (t : Tab) (i : Nat) : Vec := match t.bas.getD i none with
  | some b => f b
  | none => g i
end
section
variable {f g : Nat → Vec} {e : Vec} {n : Nat} {t : Tab}
/-- the product that is divided -/
def Wd (t : Tab) (i q p k : Nat) : Int := t.R q p * t.R i k - t.R i p * t.R q k
/-! the new rows -/
def sg (x : Int) : Int := if x > 0 then 1 else -1
end
end LP

set_option Elab.async false
set_option linter.all false
/-! LP3: which column, which row; steps; no set of columns comes twice -/
namespace LP
/-! ### a step -/
section
variable {f g : Nat → Vec} {e : Vec} {n : Nat} {t t' : Tab} {p q b : Nat}
/-! where numbers stand -/
def IsCol (t : Tab) (v : Nat) : Prop := ∃ k : Nat, t.cols[k]? = some v
def IsBas (t : Tab) (v : Nat) : Prop := ∃ i : Nat, t.bas[i]? = some (some v)
def Inn (t : Tab) (v : Nat) : Prop := IsCol t v ∨ IsBas t v
def ent (t : Tab) (p : Nat) : Nat := t.cols.getD p 0
/-! two tables of the same quantities -/
end
end LP

set_option Elab.async false
set_option linter.all false
/-! LP4: no set of columns comes twice; climbing ends -/
namespace LP
section
variable {f g : Nat → Vec} {e : Vec} {n : Nat} {sq : Nat → Tab} {ps qs bs : Nat → Nat} {K : Nat}
/-- the entering one -/
def eN (sq : Nat → Tab) (ps : Nat → Nat) (k : Nat) : Nat := ent (sq k) (ps k)
theorem most (u w : Nat → Nat) (i : Nat) : ∀ d, 0 < d → ∃ M, (∃ k, i ≤ k ∧ k < i + d ∧ (u k = M ∨ w k = M)) ∧ ∀ k, i ≤ k → k < i + d → u k ≤ M ∧ w k ≤ M
  | 0, h => by omega
  | 1, _ => by
    refine ⟨max (u i) (w i), ⟨i, by omega, by omega, ?_⟩, fun k h1 h2 => ?_⟩
    · rcases Nat.le_total (u i) (w i) with h | h
      · exact .inr (Nat.max_eq_right h).symm
      · exact .inl (Nat.max_eq_left h).symm
    · have : k = i := by omega
      subst this; exact ⟨Nat.le_max_left _ _, Nat.le_max_right _ _⟩
  | d + 2, _ => by
    obtain ⟨M, ⟨k, h1, h2, h3⟩, h4⟩ := most u w i (d + 1) (by omega)
    by_cases q : max (u (i + (d + 1))) (w (i + (d + 1))) ≤ M
    · refine ⟨M, ⟨k, h1, by omega, h3⟩, fun k' a b => ?_⟩
      by_cases z : k' = i + (d + 1)
      · subst z; exact ⟨Nat.le_trans (Nat.le_max_left _ _) q, Nat.le_trans (Nat.le_max_right _ _) q⟩
      · exact h4 k' a (by omega)
    · refine ⟨max (u (i + (d + 1))) (w (i + (d + 1))), ⟨i + (d + 1), by omega, by omega, ?_⟩, fun k' a b => ?_⟩
      · rcases Nat.le_total (u (i + (d + 1))) (w (i + (d + 1))) with h | h
        · exact .inr (Nat.max_eq_right h).symm
        · exact .inl (Nat.max_eq_left h).symm
      · by_cases z : k' = i + (d + 1)
        · subst z; exact ⟨Nat.le_max_left _ _, Nat.le_max_right _ _⟩
        · have := h4 k' a (by omega); omega
end
/-! ### few sets -/
/-! ### climbing -/
section
variable {f g : Nat → Vec} {e : Vec} {n N : Nat}
end
end LP

set_option Elab.async false
set_option linter.all false
/-! LP5: conditions decided -/
namespace LP
/-! ### a table as it is written -/
def gT (t : Tab) : Nat → Vec := fun i c => t.R i c
def unit (n : Nat) : Vec := fun c => if c = n then 1 else 0
section
variable {n : Nat} {t : Tab}
end
/-! ### amounts -/
section
variable {f g : Nat → Vec} {e : Vec} {n : Nat} {t : Tab}
end
/-! ### the conditions' table -/
abbrev Cond := List Int × Bool
section
variable {w : Nat} {cs : List Cond}
section
variable {t : Tab} (hl : ∀ c ∈ cs, c.1.length = w + 1)
include hl
/-- weights are told -/
def wt (w : Nat) (t : Tab) (v : Nat) : Int := sm (w + 2) fun j => if t.cols.getD j 0 = v then - t.R 0 j else 0
def cf (w : Nat) (cs : List Cond) (v k : Nat) : Int := if v < w then (if v = k then 1 else 0) else (cs.getD (v - w) ([], false)).1.getD k 0
end
end
end LP

set_option Elab.async false
set_option linter.all false
set_option maxRecDepth 100000
set_option maxHeartbeats 4000000
/-! ### tables of the solver: an object that alone holds two of its lists -/
namespace DY
open PySem L2 PySem.Spec PyProof.Rows
variable [Tb]
/-- the heap grows; within O it may change -/
structure Fr (O : Addr → Prop) (H H' : Hp) : Prop where
  hs : ∀ q o, H q = some o → ¬ O q → (∀ ps, o ≠ .tbl ps) → H' q = some o
  there : ∀ q, H q ≠ none → H' q ≠ none
  tb : LamX.Tabs Tb.T H'
section
variable {K : PySem.W.Frag} {A : CT} {G G' G1 H H' H1 H2 : Hp} {σ : L2.St} {ρ ρ' : Env} {O : Addr → Prop} {p a b : Addr} {t : LP.Tab} {S : Addr → Prop}
/-! what is known of rows -/
/-! a state of which all is shown -/
def noOws (ρ : Env) : Bool := ρ.all fun s => match s with
  | .ow _ => false
  | _ => true
theorem noOws_own (h : noOws ρ = true) (i : Nat) (q : Addr) : ¬ Own σ ρ i q := fun ⟨⟨d, e⟩, _⟩ => by
  have := List.all_eq_true.mp h _ (List.mem_of_getElem? e)
  cases this
end
/-- slots, one by one -/
inductive SL2 (K : PySem.W.Frag) (A : CT) (G H : Hp) : L2.St → Env → Prop
  | nil : SL2 K A G H [] []
  | cons {ov : Option V} {s : Slot} {σ : L2.St} {ρ : Env} : SlotOk K A G H ov s → SL2 K A G H σ ρ → SL2 K A G H (ov :: σ) (s :: ρ)
section
variable {K : PySem.W.Frag} {A : CT} {G G' G1 H H' H1 H2 : Hp} {σ : L2.St} {ρ ρ' : Env}
theorem SL2.len (h : SL2 K A G H σ ρ) : σ.length = ρ.length := by
  induction h with
  | nil => rfl
  | cons _ _ ih => simp [ih]
theorem SL2.at_ (h : SL2 K A G H σ ρ) : ∀ i s, ρ[i]? = some s → SlotOk K A G H (σ.getD i none) s := by
  induction h with
  | nil => intro i s e; simp at e
  | cons a _ ih =>
    intro i s e
    cases i with
    | zero => simp at e; subst e; exact a
    | succ i => exact ih i s (by simpa using e)
theorem sh_ok {v : V} {d : D} (r : Rep K A G v d) : SlotOk K A G H (some v) (.sh d) := ⟨v, rfl, r⟩
theorem un_ok {ov : Option V} : SlotOk K A G H ov .un := trivial
end
/-! ### exchange -/
section
variable {K : PySem.W.Frag} {A : CT} {H : Hp}
end
end DY

set_option Elab.async false
set_option linter.all false
set_option maxRecDepth 100000
set_option maxHeartbeats 4000000
/-! ### climbing -/
namespace DY
open PySem L2 PySem.Spec PyProof.Rows
variable [Tb]
section
variable {K : PySem.W.Frag} {A : CT} {H : Hp}
end
end DY

set_option Elab.async false
set_option linter.all false
set_option maxRecDepth 100000
set_option maxHeartbeats 4000000
/-! ### a table made and climbed -/
namespace DY
open PySem L2 PySem.Spec PyProof.Rows
variable [Tb]
section
variable {X : Cx} {A : CT} {j : Option Nat}
end
end DY

set_option Elab.async false
set_option linter.all false
/-! LP6: how large the numbers get -/
namespace LP
end LP

set_option Elab.async false
set_option linter.all false
/-! LP7: a point that keeps the conditions makes the goal positive -/
namespace LP
end LP

set_option Elab.async false
set_option linter.all false
/-! LP8: a table without a column that is 0, without its first row -/
namespace LP
/-- without the first row -/
def tl (t : Tab) : Tab := { t with rows := t.rows.drop 1, bas := t.bas.drop 1 }
section
variable {f g : Nat → Vec} {e : Vec} {n : Nat} {t : Tab}
end
end LP

set_option Elab.async false
set_option linter.all false
set_option maxRecDepth 100000
set_option maxHeartbeats 4000000
/-! ### a table climbed twice, a quantity taken out between -/
namespace DY
open PySem L2 PySem.Spec PyProof.Rows
variable [Tb]
section
variable {K : PySem.W.Frag} {A : CT} {G G3 G' G1 H H3 H4 H6 H' H1 H2 : Hp} {σ : L2.St} {ρ ρ' ρ3 : Env} {O : Addr → Prop} {p a b a6 b6 : Addr} {t t' : LP.Tab} {S : Addr → Prop}
end
/-! ### fixed -/
/-! ### climbed, fixed, climbed again -/
section
variable {X : Cx} {A : CT} {j : Option Nat}
end
end DY

set_option Elab.async false
set_option linter.all false
set_option maxRecDepth 100000
set_option maxHeartbeats 4000000
/-! DYty: a try whose only statement may raise an error of one class, which the suite tells: `return None, e.attr, ..` -/
namespace SL
open PySem L2 PySem.Spec PyProof.Rows
/-! ### calls whose error is told with the slots of the frame -/
section
variable {X : Cx} {CX : CXT} {k n : Nat} {f C : Addr} {fd : FuncData} {ps ks : List Str} {sp : Sp} {E1 : XK} {E : L2.St → XK} {dvs : List V} {ds : List Value} {x m : Str} {p pos apos : Pos} {e o : Expr} {es : List Expr} {ta : TE} {t tk : TA}
variable {pins : List (Addr × Obj)} {σ : L2.St} {H : Hp} {s : Shared} {Q : VK} {us ws : List Value} {vs zs : List V}
end
end SL
namespace DY
open PySem L2 PySem.Spec PyProof.Rows
variable [Tb]
section
variable {X : Cx} {A : CT} {CX : CXT} {k n : Nat} {f C : Addr} {fd : FuncData} {ps : List Str} {E : L2.St → XK} {x m : Str} {p pos pos' apos : Pos} {e : Expr} {es : List Expr} {me mb : Ev} {ms : List Ev} {j : Option Nat} {W : WX}
end
/-! a, b = a list of that length -/
section
variable {X : Cx} {A : CT} {pos : Pos}
end
end DY

set_option Elab.async false
set_option linter.all false
set_option maxRecDepth 100000
set_option maxHeartbeats 4000000
/-! DYte: == of tuples whose elements have an own == -/
namespace SL
open PySem PySem.SeqAt GQ
open AutoSeq1 (wpAny_loadPart')
open MeetsSeq MeetsSeq2 MeetsSeq3 SeqRoads2
section
variable {prog : Program} {w : World} {A : Around} {R : Result → Shared → Prop}
end
section
variable {prog : Program} {w : World} {A : Around} {E : Value → Shared → Prop} {s : Shared}
end
end SL
namespace DY
open PySem L2 PySem.Spec PyProof.Rows
variable [Tb]
section
variable {K : PySem.W.Frag} {A : CT} {G : Hp}
end
section
variable {X : Cx} {A : CT} {CX : CXT} {k : Nat} {f : Addr} {fd : FuncData} {ps : List Str} {E : XK} {F : Fn} {c : Nat}
end
end DY

set_option Elab.async false
set_option linter.all false
set_option maxRecDepth 100000
set_option maxHeartbeats 4000000
/-! DYle: len(x), bool(x) by an own __len__; calls with positions and names -/
namespace SL
open PySem L2 PySem.Spec PyProof.Rows Builtin
section
variable {prog : Program} {w : World} {A : Around} {E : Value → Shared → Prop} {s : Shared} {K : PySem.W.Frag} {C x f : Addr} {ox : Obj} {od : Option Obj}
end
end SL
namespace SL
open PySem L2 PySem.Spec PyProof.Rows
section
variable {X : Cx} {CX : CXT} {k : Nat} {f C : Addr} {fd : FuncData} {ps : List Str} {sp : Sp} {E : XK}
end
end SL
namespace DY
open PySem L2 PySem.Spec PyProof.Rows
variable [Tb]
section
variable {X : Cx} {A : CT} {CX : CXT} {k : Nat} {f : Addr} {fd : FuncData} {ps : List Str} {E : XK} {F : Fn} {c : Nat}
end
end DY
namespace SL
open PySem L2 PySem.Spec PyProof.Rows
section
variable {X : Cx} {CX : CXT} {k n : Nat} {f C : Addr} {fd : FuncData} {ps ks : List Str} {sp : Sp} {E : XK} {x : Str} {p pos : Pos} {e : Expr} {es : List Expr} {kws : List Keyword} {t tk : TA} {g : List Value → List Value → List Value} {gV : List V → List V → List V}
end
end SL
namespace DY
open PySem L2 PySem.Spec PyProof.Rows
section
variable [Tb] {A : CT} {n : Nat} {E : XK} {ms ks : List Ev}
end
end DY

set_option Elab.async false
set_option linter.all false
set_option maxRecDepth 100000
set_option maxHeartbeats 1000000
namespace ZG
open PySem RZ
open PySem.Sem (wp)
section
variable {prog : Program} {w : World} {A : Around} {E : Value → Shared → Prop} {s : Shared}
end
end ZG

set_option Elab.async false
set_option linter.all false
set_option maxRecDepth 100000
set_option maxHeartbeats 1000000
/-! zip of any two of: a list, a tuple, a text -/
namespace ZG
open PySem PySem.Spec PyProof.Rows L2 RZ
section
variable {X : Cx} {pins : List (Addr × Obj)} {σ : L2.St} {H : Hp} {s : Shared} {S : Sv} {xs ys : List V} {t : Tok} {i : Addr} {k : Nat}
end
end ZG

set_option Elab.async false
set_option linter.all false
set_option maxRecDepth 100000
set_option maxHeartbeats 4000000
/-! ### zip of two, enumerate over a text -/
namespace DY
open PySem L2 PySem.Spec PyProof.Rows ZG
variable [Tb]
section
variable {K : PySem.W.Frag} {A : CT} {G G' H : Hp} {X : Cx} {tg e e2 : Expr} {me me2 : Ev} {p pos tpos : Pos} {elts : List Expr} {kk : Nat}
end
end DY

set_option Elab.async false
set_option linter.all false
set_option maxRecDepth 100000
set_option maxHeartbeats 4000000
/-! ### divmod, s[i], n = .., list.index -/
namespace DY
open PySem L2 PySem.Spec PyProof.Rows
variable [Tb]
section
variable {X : Cx} {A : CT} {o e b : Expr} {mo me mb : Ev} {apos pos pos' p tp : Pos} {x n : Str} {i j kk : Nat} {jo : Option Nat}
/-! ### list.index -/
end
end DY
/-! ### list(range(n)) -/
namespace DY
open PySem L2 PySem.Spec PyProof.Rows
variable [Tb]
section
variable {X : Cx} {A : CT} {e : Expr} {me : Ev} {p pos p2 pos2 : Pos}
end
end DY
/-! ### is True, is False of truths -/
namespace DY
open PySem L2 PySem.Spec PyProof.Rows
variable [Tb]
section
variable {X : Cx} {A : CT}
end
end DY

set_option Elab.async false
set_option linter.all false
set_option maxRecDepth 100000
set_option maxHeartbeats 4000000
/-! SLX6: defs that are called with the caught error and more; _law_caught(lambda: ..) -/
namespace SL
open PySem L2 PySem.Spec PyProof.Rows LamX
abbrev SpXn := Value → Option Addr → List V → Hp → VK → Prop
section
variable {P : Program} {w : World} {K : PySem.W.Frag} {mg : Str → Option Value} {base : Heap} {x qual : Str} {f : Addr} {fd : FuncData} {N ps : List Str} {k : Nat} {sp : SpXn}
end
/-! ### g(e, ..), in the suite -/
section
variable {X : Cx} {a f : Addr} {oe : Obj} {cls : Value} {d : Option Addr} {pn : List (Addr × Obj)} {x e : Str} {k i : Nat} {fd : FuncData} {sp : SpXn} {ps : List Str} {es : List Expr} {ta : TA} {p p2 pos : Pos}
end
/-! ### _law_caught -/
section
variable {X : Cx}
end
end SL

set_option Elab.async false
set_option linter.all false
set_option maxRecDepth 100000
set_option maxHeartbeats 4000000
/-! ### _law_caught(lambda: ..): a number of the error's class, and its attribute -/
namespace DY
open PySem L2 PySem.Spec PyProof.Rows LamX
/-! data that knows nothing of the error -/
section
variable {K : PySem.W.Frag} {A : CT} {G : Hp} {a : Addr} {l cs : List Nat}
end
variable [Tb]
section
variable {K : PySem.W.Frag} {A : CT} {G G' G1 G2 H H' H1 H2 : Hp} {σ : L2.St} {ρ ρ1 ρ2 ρ' : Env} {Q Q' : VK}
end
section
variable {P : Program} {w : World} {K : PySem.W.Frag} {mg : Str → Option Value} {base : Heap} {x qual e y : Str} {f : Addr} {fd : FuncData} {N : List Str} {k n : Nat} {A : CT} {mb : Nat → D → Sv} {l cs : List Nat}
end
section
variable {X : Cx} {A : CT}
end
/-! ### list.index of a truth -/
section
variable {X : Cx} {A : CT} {o e : Expr} {mo me : Ev} {apos pos : Pos}
end
end DY

set_option Elab.async false
set_option linter.all false
set_option maxRecDepth 100000
set_option maxHeartbeats 4000000
/-! ### errors out of a choice, a comparison, an attribute, a call of a method by name -/
namespace DY
open PySem L2 PySem.Spec PyProof.Rows
variable [Tb]
section
variable {X : Cx} {A : CT} {E : XK} {a b c e : Expr} {ma mb mc me : Ev} {ks : List Ev} {p pos : Pos} {n : Nat} {m : Str}
end
end DY

set_option Elab.async false
set_option linter.all false
set_option maxRecDepth 100000
set_option maxHeartbeats 4000000
/-! ### C.m(..), m a static method of the class C -/
namespace SL
open PySem L2 PySem.Spec PyProof.Rows
structure SMeth (K : PySem.W.Frag) (C : Addr) (m : Str) (f : Addr) : Prop where
  ga : PySem.W.specialIn K (.ref C) "__getattribute__" = some (some (.builtin "type.__getattribute__"))
  ex : ∃ mc p rest, PySem.W.readsIn K C mc = true ∧ PySem.W.findCls K (.ref C) mc m = some (.get (.builtin "staticmethod.__get__") (.ref p) .none (.ref C)) ∧ PySem.W.recIn K p "staticmethod" = some (.ref f :: rest)
  kp : PySem.W.keepIn K (.ref f) = true
section
variable {X : Cx} {CX : CXT} {k n : Nat} {f C : Addr} {fd : FuncData} {ps ks : List Str} {sp : Sp} {E : XK} {dvs : List V} {ds : List Value} {x m : Str} {p pos apos : Pos} {e o : Expr} {es : List Expr} {t tk : TA} {kws : List Keyword} {g : List Value → List Value → List Value} {gV : List V → List V → List V}
theorem getsm_ok {pins : List (Addr × Obj)} {σ : L2.St} {H : Hp} {s : Shared} {pl : Sem Bool} {Q : Value × List Value → Shared → Prop} (I : Inv X pins σ H s) (hm : SMeth X.K C m f) (h : Q (.ref f, []) { s with toks := s.toks + 1 }) : wpAny (model X.prog X.w) X.A (getMethod (.ref C) m pl) Q X.xe s := by
  obtain ⟨ga, ⟨mc, p, rest, h1, h2, h3⟩, kp⟩ := hm
  exact PySem.W.method_cls I.kIn ga (PySem.W.cls_bind I.kIn h1 h2 (wpAny_call (PySem.W.sm_get (s := { s with toks := s.toks + 1 }) I.kIn h3 (PySem.W.handed_on rfl h))))
theorem pe_smeth {pl : Sem Bool} (he : PE X o (tC (.ref C))) (hm : SMeth X.K C m f) (F : FnOk X.prog X.w X.K X.mg X.base CX k f fd ps sp) (hr : Room k X.A) (hb : Binds X.K fd ps ds) (hd : Vals dvs ds) (hx : Passes CX X E) (ha : PA X (e :: es) t)
    (hst : starEach (e :: es) X.env = (false, eval e X.env) :: starEach es X.env := by rfl) (hpl : (backTo pos (starEach es X.env)).any (·.1) = false := by rfl)
    (ht : eval (.Call (.Attribute o m apos) (e :: es) [] pos) X.env = (do
      let ov ← eval o X.env
      standAt apos.atName
      let (f, first) ← holding [ov] (getMethod ov m pl)
      callWith pos f first (backTo pos (starEach (e :: es) X.env)) (backToKw pos (keywordEach [] X.env))) := by rfl) : PE X (.Call (.Attribute o m apos) (e :: es) [] pos) (tCall sp dvs E t) := ⟨fun pins s σ H Q I h => by
  refine PySem.W.methodCall_KW (pl := pl) (thn (he.run pins s σ H (fun v H1 => v = .ref C ∧ H1 = H) I ⟨rfl, rfl⟩) fun u s1 ⟨x, H1, I1, rx, ex, eH⟩ => ?_) ht
  subst ex eH
  obtain rfl : u = Value.ref C := rx
  refine getsm_ok I1 hm ?_
  have I2 : Inv X pins σ H1 { s1 with toks := s1.toks + 1 } := I1.tok _
  exact PySem.W.callWith_K (first := []) (h₀ := X.base) I.ok.mod.kin hm.kp (thn (ha.run pos pins _ σ H1 _ I2 h) fun us s2 ⟨vs, H2, I3, r, q2⟩ => ⟨I3.kIn, run_fn (us := us) (vs := vs) F hr hb hd hx I3 r q2⟩) hst hpl⟩
def tSmK (n m : Nat) (sp : Sp) (gV : List V → List V → List V) (E : XK) (t tk : TA) : TE := fun σ H Q => t σ H fun vs H1 => tk σ H1 fun zs H2 => vs.length = n ∧ zs.length = m ∧ sp (gV vs zs) H2 Q E
theorem pe_smethK0 {pl : Sem Bool} (he : PE X o (tC (.ref C))) (hm : SMeth X.K C m f) (F : FnOk X.prog X.w X.K X.mg X.base CX k f fd ps sp) (hr : Room k X.A) (hb : KBn X.K fd ps 0 ks g gV) (hx : Passes CX X E) (hkw : PK X kws tk)
    (hall : (backToKw pos (keywordEach kws X.env)).all (·.1.isSome) = true := by rfl) (hks : (backToKw pos (keywordEach kws X.env)).filterMap (·.1) = ks := by rfl)
    (hpl : ((backTo pos (starEach [] X.env)).any (·.1) || (backToKw pos (keywordEach kws X.env)).any (·.1.isNone)) = false := by rfl)
    (ht : eval (.Call (.Attribute o m apos) [] kws pos) X.env = (do
      let ov ← eval o X.env
      standAt apos.atName
      let (f, first) ← holding [ov] (getMethod ov m pl)
      callWith pos f first (backTo pos (starEach [] X.env)) (backToKw pos (keywordEach kws X.env))) := by rfl) :
    PE X (.Call (.Attribute o m apos) [] kws pos) (tSmK 0 ks.length sp gV E tNil tk) := ⟨fun pins s σ H Q I h => by
  refine PySem.W.methodCall_KW (pl := pl) (thn (he.run pins s σ H (fun v H1 => v = .ref C ∧ H1 = H) I ⟨rfl, rfl⟩) fun u s1 ⟨x, H1, I1, rx, ex, eH⟩ => ?_) ht
  subst ex eH
  obtain rfl : u = Value.ref C := rx
  refine getsm_ok I1 hm ?_
  have I2 : Inv X pins σ H1 { s1 with toks := s1.toks + 1 } := I1.tok _
  refine PySem.W.callWith_KW0 (first := []) (h₀ := X.base) I.ok.mod.kin hm.kp hall ?_ hpl
  refine thn (hkw.run pos pins _ σ H1 _ I2 h) fun ws s2 ⟨zs, H2, I3, rz, l1, l2, q2⟩ => ⟨I3.kIn, ?_⟩
  rw [hks]
  exact run_fnN (us := []) (vs := []) F hr hb hx I3 .nil rz rfl l2 q2⟩
end
end SL
namespace DY
open PySem L2 PySem.Spec PyProof.Rows
variable [Tb]
section
variable {X : Cx} {A : CT} {CX : CXT} {k n : Nat} {f C : Addr} {fd : FuncData} {ps : List Str} {E : XK} {a : Expr} {ms ks : List Ev}
/-- any call with the reading of a call -/
theorem pd_callP {F : Fn} (hF : ∀ ds r, F ds = .ok r → ds.length = n) (hp : PE X a (tCall (spF X.K A F n) [] E (liftA X.K A ms))) : PD A X a (eN F ms) := PE.imp hp fun σ H Q h => by
  refine call_use (dds := []) hF (fun _ => .nil) ?_
  rw [app_nil]; exact h
theorem pd_callPK {F : Fn} {nk : Nat} {gV : List V → List V → List V} {g : List D → List D → List D} (hF : ∀ ds r, F ds = .ok r → ds.length = n) (hg : GV gV g) (hp : PE X a (SL.tSmK 0 nk (spF X.K A F n) gV E tNil (liftA X.K A ks))) (h2 : nk = ks.length) : PD A X a (eNK F g [] ks) := PE.imp hp fun σ H Q h => by
  obtain ⟨G, ρ, r, ρ', s, e, kk⟩ := h
  obtain ⟨⟨xs, ρ2⟩, e3, e⟩ := bind_ok e
  cases e3
  obtain ⟨⟨zs, ρ3⟩, e5, e⟩ := bind_ok e
  obtain ⟨r', e4, e⟩ := bind_ok e
  cases e
  refine ⟨G, ρ, zs, _, s, e5, fun ws G3 H3 n3 r3 => ⟨rfl, by rw [r3.len, evs_len e5, h2], ?_⟩⟩
  have rr := hg.rel (Reps.nil (K := X.K) (A := A) (G := G3)) r3
  exact ⟨by rw [rr.len]; exact hF _ _ e4, G3, _, r, n3.st.sub, rr, e4, end_of n3 kk⟩
end
end DY

set_option Elab.async false
set_option linter.all false
set_option maxRecDepth 100000
set_option maxHeartbeats 4000000
namespace DY
open PySem L2 SL
def fdNmsA : List (String × String × String × Bool) := [("is_number", "is_number", "is_number", true), ("Ratio___init__", "__init__", "Ratio.__init__", true)]
open Lean in
def fdOfA (x : Ident) : MacroM Term := do
  let s := x.getId.toString
  let i (p : String) : Ident := mkIdent (Name.mkSimple (p ++ s))
  let (n, q, b) := (fdNmsA.lookup s).getD (s, s, false)
  let d ← if b then `(.ref $(i "dt_")) else `(.none)
  `(PySem.W.fnOf $(quote n) $(quote q) (defArgs $(i "st_")) (defBody $(i "st_")) (defScope $(i "st_")) $d $(i "kV_") $(i "dc_") $(i "pm_") $(i "an_") $(i "cd_") $(i "ct_"))
open Lean in
local macro_rules
  | `(unop% $f:ident $x:ident) => do
    if f.getId != `fd then Macro.throwUnsupported
    if x.getId == `lr then `(by first | exact Or.inl rfl | exact Or.inr rfl) else fdOfA x
section Tbs
variable [Tb]
/-! ### the text by places -/
def topS (i : Nat) : Stmt := PySem.Challenge.pw_slackstrings_k17_whole_texts_of_wishes.main.body.getD i (.Pass ⟨0, 0, 0, 0⟩)
abbrev st_are_great : Stmt := (topS 5)
abbrev st_are_small : Stmt := (topS 4)
abbrev st_is_integer : Stmt := (topS 2)
abbrev st_is_number : Stmt := (topS 3)
abbrev st_is_moment : Stmt := (topS 23)
abbrev st_is_level : Stmt := (topS 24)
abbrev st_shared_factor : Stmt := (topS 16)
abbrev st_is_more : Stmt := (topS 29)
abbrev st_is_headed : Stmt := (topS 31)
abbrev st_overs_in : Stmt := (topS 32)
abbrev st_Wish___init__ : Stmt := (inClass (topS 38) 0)
abbrev st_Ratio___str__ : Stmt := (inClass (topS 21) 12)
abbrev st_Ratio___init__ : Stmt := (inClass (topS 21) 0)
abbrev st_more_of : Stmt := (topS 30)
abbrev st_text_of_level : Stmt := (topS 25)
abbrev st_text_of_r0 : Stmt := (topS 33)
abbrev st_text_of_r1 : Stmt := (topS 33)
abbrev st_text_of_r2 : Stmt := (topS 33)
abbrev st_text_of_r3 : Stmt := (topS 33)
abbrev st_Wish___str__ : Stmt := (inClass (topS 38) 8)
abbrev st_form_in_r0 : Stmt := (topS 36)
abbrev st_level_in : Stmt := (topS 26)
abbrev st_is_written : Stmt := (topS 19)
abbrev st_ratio_in : Stmt := (topS 20)
abbrev st_more_in : Stmt := (topS 35)
abbrev st_form_in_r1 : Stmt := (topS 36)
abbrev st_form_in_r2 : Stmt := (topS 36)
abbrev st_form_in_r3 : Stmt := (topS 36)
abbrev st_nested : Stmt := (topS 34)
abbrev st_wish_in : Stmt := (topS 37)
abbrev st_Wish_read : Stmt := (inClass (topS 38) 1)
abbrev st__law_bag : Stmt := (topS 40)
abbrev st_Wish___eq__ : Stmt := (inClass (topS 38) 9)
abbrev st__law_draw : Stmt := (topS 41)
abbrev st__law_one : Stmt := (topS 42)
abbrev st__law_level : Stmt := (topS 47)
abbrev st__law_more : Stmt := (topS 48)
abbrev st__law_plea_r0 : Stmt := (topS 49)
abbrev st__law_plea_r1 : Stmt := (topS 49)
abbrev st__law_plea_r2 : Stmt := (topS 49)
abbrev st__law_plea_r3 : Stmt := (topS 49)
abbrev st__law_cords : Stmt := (topS 45)
abbrev st__law_letters : Stmt := (topS 44)
abbrev st__law_words : Stmt := (topS 43)
abbrev st__law_shape : Stmt := (topS 46)
abbrev st__law_level_text : Stmt := (topS 50)
abbrev st__law_written_r0 : Stmt := (topS 51)
abbrev st__law_written_r1 : Stmt := (topS 51)
abbrev st__law_written_r2 : Stmt := (topS 51)
abbrev st__law_written_r3 : Stmt := (topS 51)
abbrev st__law_right : Stmt := (topS 52)
abbrev st_law : Stmt := (topS 53)
abbrev nm_are_great : List Str := ["value", "least", "most", "sign"]
abbrev nm_are_small : List Str := ["value", "least", "most", "sign"]
abbrev nm_is_integer : List Str := ["value"]
abbrev nm_is_number : List Str := ["value", "most"]
abbrev nm_is_moment : List Str := ["value", "last"]
abbrev nm_is_level : List Str := ["value"]
abbrev nm_shared_factor : List Str := ["one", "two", "high", "low"]
abbrev nm_is_more : List Str := ["value"]
abbrev nm_is_headed : List Str := ["value", "word", "many"]
abbrev nm_overs_in : List Str := ["form", "found", "waiting", "each", "deep", "inner"]
abbrev nm_Wish___init__ : List Str := ["self", "form"]
abbrev nm_Ratio___str__ : List Str := ["self"]
abbrev nm_Ratio___init__ : List Str := ["self", "top", "bottom", "factor"]
abbrev nm_more_of : List Str := ["value"]
abbrev nm_text_of_level : List Str := ["level"]
abbrev nm_text_of_r0 : List Str := ["form", "levels", "each"]
abbrev nm_text_of_r1 : List Str := ["form", "levels", "each"]
abbrev nm_text_of_r2 : List Str := ["form", "levels", "each"]
abbrev nm_text_of_r3 : List Str := ["form", "levels", "each"]
abbrev nm_Wish___str__ : List Str := ["self"]
abbrev nm_form_in_r0 : List Str := ["value", "room", "levels", "word", "each"]
abbrev nm_level_in : List Str := ["text", "name", "sign", "moment", "found"]
abbrev nm_is_written : List Str := ["text", "sign"]
abbrev nm_ratio_in : List Str := ["text", "sign", "first", "line", "second", "bottom"]
abbrev nm_more_in : List Str := ["word", "found"]
abbrev nm_form_in_r1 : List Str := ["value", "room", "levels", "word", "each"]
abbrev nm_form_in_r2 : List Str := ["value", "room", "levels", "word", "each"]
abbrev nm_form_in_r3 : List Str := ["value", "room", "levels", "word", "each"]
abbrev nm_nested : List Str := ["text", "stack", "word", "sign", "made"]
abbrev nm_wish_in : List Str := ["text", "form"]
abbrev nm_Wish_read : List Str := ["text"]
abbrev nm__law_bag : List Str := ["_law_cells", "_law_k", "_law_cell", "_law_seed", "_law_this", "_law_figures"]
abbrev nm_Wish___eq__ : List Str := ["self", "other"]
abbrev nm__law_draw : List Str := ["_law_bag_here", "_law_wide", "_law_figure", "_law_held", "_law_times"]
abbrev nm__law_one : List Str := ["_law_bag_here", "_law_some"]
abbrev nm__law_level : List Str := ["_law_bag_here", "_law_shape_here", "_law_far_when", "_law_way", "_law_when"]
abbrev nm__law_more : List Str := ["_law_bag_here"]
abbrev nm__law_plea_r0 : List Str := ["_law_bag_here", "_law_shape_here", "_law_far_when", "_law_room", "_law_way", "_law_early"]
abbrev nm__law_plea_r1 : List Str := ["_law_bag_here", "_law_shape_here", "_law_far_when", "_law_room", "_law_way", "_law_early"]
abbrev nm__law_plea_r2 : List Str := ["_law_bag_here", "_law_shape_here", "_law_far_when", "_law_room", "_law_way", "_law_early"]
abbrev nm__law_plea_r3 : List Str := ["_law_bag_here", "_law_shape_here", "_law_far_when", "_law_room", "_law_way", "_law_early"]
abbrev nm__law_cords : List Str := ["_law_bag_here", "_law_limbs", "_law_pairs", "_law_k", "_law_j", "_law_pair"]
abbrev nm__law_letters : List Str := ["_law_bag_here", "_law_pool", "_law_many", "_law_left", "_law_found", "_law_turn"]
abbrev nm__law_words : List Str := ["_law_bag_here", "_law_many", "_law_found", "_law_turn", "_law_made", "_law_k"]
abbrev nm__law_shape : List Str := ["_law_bag_here", "_law_limbs", "_law_pegs", "_law_called", "_law_lines", "_law_each"]
abbrev nm__law_level_text : List Str := ["_law_level_here"]
abbrev nm__law_written_r0 : List Str := ["_law_plea_here", "_law_more_here", "_law_line", "_law_pair", "_law_each"]
abbrev nm__law_written_r1 : List Str := ["_law_plea_here", "_law_more_here", "_law_line", "_law_pair", "_law_each"]
abbrev nm__law_written_r2 : List Str := ["_law_plea_here", "_law_more_here", "_law_line", "_law_pair", "_law_each"]
abbrev nm__law_written_r3 : List Str := ["_law_plea_here", "_law_more_here", "_law_line", "_law_pair", "_law_each"]
abbrev nm__law_right : List Str := ["_law_bag_here", "_law_shape_here", "_law_made", "_law_turn", "_law_plea_here", "_law_line", "_law_mine", "_law_again", "_law_found", "_law_this", "_law_that"]
abbrev nm_law : List Str := ["_law_cells", "_law_plea_here", "_law_line", "_law_k"]
theorem sc_are_great : FnScope nm_are_great ["value", "least", "most"] (defScope st_are_great) := ⟨rfl, rfl, rfl, by decide +kernel, rfl, by decide +kernel, by decide +kernel⟩
theorem sc_are_small : FnScope nm_are_small ["value", "least", "most"] (defScope st_are_small) := ⟨rfl, rfl, rfl, by decide +kernel, rfl, by decide +kernel, by decide +kernel⟩
theorem sc_is_integer : FnScope nm_is_integer ["value"] (defScope st_is_integer) := ⟨rfl, rfl, rfl, by decide +kernel, rfl, by decide +kernel, by decide +kernel⟩
theorem sc_is_number : FnScope nm_is_number ["value", "most"] (defScope st_is_number) := ⟨rfl, rfl, rfl, by decide +kernel, rfl, by decide +kernel, by decide +kernel⟩
theorem sc_is_moment : FnScope nm_is_moment ["value", "last"] (defScope st_is_moment) := ⟨rfl, rfl, rfl, by decide +kernel, rfl, by decide +kernel, by decide +kernel⟩
theorem sc_is_level : FnScope nm_is_level ["value"] (defScope st_is_level) := ⟨rfl, rfl, rfl, by decide +kernel, rfl, by decide +kernel, by decide +kernel⟩
theorem sc_shared_factor : FnScope nm_shared_factor ["one", "two"] (defScope st_shared_factor) := ⟨rfl, rfl, rfl, by decide +kernel, rfl, by decide +kernel, by decide +kernel⟩
theorem sc_is_more : FnScope nm_is_more ["value"] (defScope st_is_more) := ⟨rfl, rfl, rfl, by decide +kernel, rfl, by decide +kernel, by decide +kernel⟩
theorem sc_is_headed : FnScope nm_is_headed ["value"] (defScope st_is_headed) := ⟨rfl, rfl, rfl, by decide +kernel, rfl, by decide +kernel, by decide +kernel⟩
theorem sc_overs_in : FnScope nm_overs_in ["form"] (defScope st_overs_in) := ⟨rfl, rfl, rfl, by decide +kernel, rfl, by decide +kernel, by decide +kernel⟩
theorem sc_Wish___init__ : FnScope nm_Wish___init__ ["self", "form"] (defScope st_Wish___init__) := ⟨rfl, rfl, rfl, by decide +kernel, rfl, by decide +kernel, by decide +kernel⟩
theorem sc_Ratio___str__ : FnScope nm_Ratio___str__ ["self"] (defScope st_Ratio___str__) := ⟨rfl, rfl, rfl, by decide +kernel, rfl, by decide +kernel, by decide +kernel⟩
theorem sc_Ratio___init__ : FnScope nm_Ratio___init__ ["self", "top", "bottom"] (defScope st_Ratio___init__) := ⟨rfl, rfl, rfl, by decide +kernel, rfl, by decide +kernel, by decide +kernel⟩
theorem sc_more_of : FnScope nm_more_of ["value"] (defScope st_more_of) := ⟨rfl, rfl, rfl, by decide +kernel, rfl, by decide +kernel, by decide +kernel⟩
theorem sc_text_of_level : FnScope nm_text_of_level ["level"] (defScope st_text_of_level) := ⟨rfl, rfl, rfl, by decide +kernel, rfl, by decide +kernel, by decide +kernel⟩
theorem sc_text_of_r0 : FnScope nm_text_of_r0 ["form"] (defScope st_text_of_r0) := ⟨rfl, rfl, rfl, by decide +kernel, rfl, by decide +kernel, by decide +kernel⟩
theorem sc_text_of_r1 : FnScope nm_text_of_r1 ["form"] (defScope st_text_of_r1) := ⟨rfl, rfl, rfl, by decide +kernel, rfl, by decide +kernel, by decide +kernel⟩
theorem sc_text_of_r2 : FnScope nm_text_of_r2 ["form"] (defScope st_text_of_r2) := ⟨rfl, rfl, rfl, by decide +kernel, rfl, by decide +kernel, by decide +kernel⟩
theorem sc_text_of_r3 : FnScope nm_text_of_r3 ["form"] (defScope st_text_of_r3) := ⟨rfl, rfl, rfl, by decide +kernel, rfl, by decide +kernel, by decide +kernel⟩
theorem sc_Wish___str__ : FnScope nm_Wish___str__ ["self"] (defScope st_Wish___str__) := ⟨rfl, rfl, rfl, by decide +kernel, rfl, by decide +kernel, by decide +kernel⟩
theorem sc_form_in_r0 : FnScope nm_form_in_r0 ["value", "room"] (defScope st_form_in_r0) := ⟨rfl, rfl, rfl, by decide +kernel, rfl, by decide +kernel, by decide +kernel⟩
theorem sc_level_in : FnScope nm_level_in ["text"] (defScope st_level_in) := ⟨rfl, rfl, rfl, by decide +kernel, rfl, by decide +kernel, by decide +kernel⟩
theorem sc_is_written : FnScope nm_is_written ["text"] (defScope st_is_written) := ⟨rfl, rfl, rfl, by decide +kernel, rfl, by decide +kernel, by decide +kernel⟩
theorem sc_ratio_in : FnScope nm_ratio_in ["text"] (defScope st_ratio_in) := ⟨rfl, rfl, rfl, by decide +kernel, rfl, by decide +kernel, by decide +kernel⟩
theorem sc_more_in : FnScope nm_more_in ["word"] (defScope st_more_in) := ⟨rfl, rfl, rfl, by decide +kernel, rfl, by decide +kernel, by decide +kernel⟩
theorem sc_form_in_r1 : FnScope nm_form_in_r1 ["value", "room"] (defScope st_form_in_r1) := ⟨rfl, rfl, rfl, by decide +kernel, rfl, by decide +kernel, by decide +kernel⟩
theorem sc_form_in_r2 : FnScope nm_form_in_r2 ["value", "room"] (defScope st_form_in_r2) := ⟨rfl, rfl, rfl, by decide +kernel, rfl, by decide +kernel, by decide +kernel⟩
theorem sc_form_in_r3 : FnScope nm_form_in_r3 ["value", "room"] (defScope st_form_in_r3) := ⟨rfl, rfl, rfl, by decide +kernel, rfl, by decide +kernel, by decide +kernel⟩
theorem sc_nested : FnScope nm_nested ["text"] (defScope st_nested) := ⟨rfl, rfl, rfl, by decide +kernel, rfl, by decide +kernel, by decide +kernel⟩
theorem sc_wish_in : FnScope nm_wish_in ["text"] (defScope st_wish_in) := ⟨rfl, rfl, rfl, by decide +kernel, rfl, by decide +kernel, by decide +kernel⟩
theorem sc_Wish_read : FnScope nm_Wish_read ["text"] (defScope st_Wish_read) := ⟨rfl, rfl, rfl, by decide +kernel, rfl, by decide +kernel, by decide +kernel⟩
theorem sc__law_bag : FnScope nm__law_bag ["_law_cells", "_law_k"] (defScope st__law_bag) := ⟨rfl, rfl, rfl, by decide +kernel, rfl, by decide +kernel, by decide +kernel⟩
theorem sc_Wish___eq__ : FnScope nm_Wish___eq__ ["self", "other"] (defScope st_Wish___eq__) := ⟨rfl, rfl, rfl, by decide +kernel, rfl, by decide +kernel, by decide +kernel⟩
theorem sc__law_draw : FnScope nm__law_draw ["_law_bag_here", "_law_wide"] (defScope st__law_draw) := ⟨rfl, rfl, rfl, by decide +kernel, rfl, by decide +kernel, by decide +kernel⟩
theorem sc__law_one : FnScope nm__law_one ["_law_bag_here", "_law_some"] (defScope st__law_one) := ⟨rfl, rfl, rfl, by decide +kernel, rfl, by decide +kernel, by decide +kernel⟩
theorem sc__law_level : FnScope nm__law_level ["_law_bag_here", "_law_shape_here", "_law_far_when"] (defScope st__law_level) := ⟨rfl, rfl, rfl, by decide +kernel, rfl, by decide +kernel, by decide +kernel⟩
theorem sc__law_more : FnScope nm__law_more ["_law_bag_here"] (defScope st__law_more) := ⟨rfl, rfl, rfl, by decide +kernel, rfl, by decide +kernel, by decide +kernel⟩
theorem sc__law_plea_r0 : FnScope nm__law_plea_r0 ["_law_bag_here", "_law_shape_here", "_law_far_when", "_law_room"] (defScope st__law_plea_r0) := ⟨rfl, rfl, rfl, by decide +kernel, rfl, by decide +kernel, by decide +kernel⟩
theorem sc__law_plea_r1 : FnScope nm__law_plea_r1 ["_law_bag_here", "_law_shape_here", "_law_far_when", "_law_room"] (defScope st__law_plea_r1) := ⟨rfl, rfl, rfl, by decide +kernel, rfl, by decide +kernel, by decide +kernel⟩
theorem sc__law_plea_r2 : FnScope nm__law_plea_r2 ["_law_bag_here", "_law_shape_here", "_law_far_when", "_law_room"] (defScope st__law_plea_r2) := ⟨rfl, rfl, rfl, by decide +kernel, rfl, by decide +kernel, by decide +kernel⟩
theorem sc__law_plea_r3 : FnScope nm__law_plea_r3 ["_law_bag_here", "_law_shape_here", "_law_far_when", "_law_room"] (defScope st__law_plea_r3) := ⟨rfl, rfl, rfl, by decide +kernel, rfl, by decide +kernel, by decide +kernel⟩
theorem sc__law_cords : FnScope nm__law_cords ["_law_bag_here", "_law_limbs"] (defScope st__law_cords) := ⟨rfl, rfl, rfl, by decide +kernel, rfl, by decide +kernel, by decide +kernel⟩
theorem sc__law_letters : FnScope nm__law_letters ["_law_bag_here", "_law_pool", "_law_many"] (defScope st__law_letters) := ⟨rfl, rfl, rfl, by decide +kernel, rfl, by decide +kernel, by decide +kernel⟩
theorem sc__law_words : FnScope nm__law_words ["_law_bag_here", "_law_many"] (defScope st__law_words) := ⟨rfl, rfl, rfl, by decide +kernel, rfl, by decide +kernel, by decide +kernel⟩
theorem sc__law_shape : FnScope nm__law_shape ["_law_bag_here"] (defScope st__law_shape) := ⟨rfl, rfl, rfl, by decide +kernel, rfl, by decide +kernel, by decide +kernel⟩
theorem sc__law_level_text : FnScope nm__law_level_text ["_law_level_here"] (defScope st__law_level_text) := ⟨rfl, rfl, rfl, by decide +kernel, rfl, by decide +kernel, by decide +kernel⟩
theorem sc__law_written_r0 : FnScope nm__law_written_r0 ["_law_plea_here"] (defScope st__law_written_r0) := ⟨rfl, rfl, rfl, by decide +kernel, rfl, by decide +kernel, by decide +kernel⟩
theorem sc__law_written_r1 : FnScope nm__law_written_r1 ["_law_plea_here"] (defScope st__law_written_r1) := ⟨rfl, rfl, rfl, by decide +kernel, rfl, by decide +kernel, by decide +kernel⟩
theorem sc__law_written_r2 : FnScope nm__law_written_r2 ["_law_plea_here"] (defScope st__law_written_r2) := ⟨rfl, rfl, rfl, by decide +kernel, rfl, by decide +kernel, by decide +kernel⟩
theorem sc__law_written_r3 : FnScope nm__law_written_r3 ["_law_plea_here"] (defScope st__law_written_r3) := ⟨rfl, rfl, rfl, by decide +kernel, rfl, by decide +kernel, by decide +kernel⟩
theorem sc__law_right : FnScope nm__law_right ["_law_bag_here"] (defScope st__law_right) := ⟨rfl, rfl, rfl, by decide +kernel, rfl, by decide +kernel, by decide +kernel⟩
theorem sc_law : FnScope nm_law ["_law_cells"] (defScope st_law) := ⟨rfl, rfl, rfl, by decide +kernel, rfl, by decide +kernel, by decide +kernel⟩
/-- the defs' addresses and data -/
structure Fx where
  f_are_great : Addr
  d_are_great : FuncData
  f_are_small : Addr
  d_are_small : FuncData
  f_is_integer : Addr
  d_is_integer : FuncData
  f_is_number : Addr
  d_is_number : FuncData
  f_is_moment : Addr
  d_is_moment : FuncData
  f_is_level : Addr
  d_is_level : FuncData
  f_shared_factor : Addr
  d_shared_factor : FuncData
  f_is_more : Addr
  d_is_more : FuncData
  f_is_headed : Addr
  d_is_headed : FuncData
  f_overs_in : Addr
  d_overs_in : FuncData
  f_Wish___init__ : Addr
  d_Wish___init__ : FuncData
  f_Ratio___str__ : Addr
  d_Ratio___str__ : FuncData
  f_Ratio___init__ : Addr
  d_Ratio___init__ : FuncData
  f_more_of : Addr
  d_more_of : FuncData
  f_text_of_level : Addr
  d_text_of_level : FuncData
  f_text_of_r0 : Addr
  d_text_of_r0 : FuncData
  f_text_of_r1 : Addr
  d_text_of_r1 : FuncData
  f_text_of_r2 : Addr
  d_text_of_r2 : FuncData
  f_text_of_r3 : Addr
  d_text_of_r3 : FuncData
  f_Wish___str__ : Addr
  d_Wish___str__ : FuncData
  f_form_in_r0 : Addr
  d_form_in_r0 : FuncData
  f_level_in : Addr
  d_level_in : FuncData
  f_is_written : Addr
  d_is_written : FuncData
  f_ratio_in : Addr
  d_ratio_in : FuncData
  f_more_in : Addr
  d_more_in : FuncData
  f_form_in_r1 : Addr
  d_form_in_r1 : FuncData
  f_form_in_r2 : Addr
  d_form_in_r2 : FuncData
  f_form_in_r3 : Addr
  d_form_in_r3 : FuncData
  f_nested : Addr
  d_nested : FuncData
  f_wish_in : Addr
  d_wish_in : FuncData
  f_Wish_read : Addr
  d_Wish_read : FuncData
  f__law_bag : Addr
  d__law_bag : FuncData
  f_Wish___eq__ : Addr
  d_Wish___eq__ : FuncData
  f__law_draw : Addr
  d__law_draw : FuncData
  f__law_one : Addr
  d__law_one : FuncData
  f__law_level : Addr
  d__law_level : FuncData
  f__law_more : Addr
  d__law_more : FuncData
  f__law_plea_r0 : Addr
  d__law_plea_r0 : FuncData
  f__law_plea_r1 : Addr
  d__law_plea_r1 : FuncData
  f__law_plea_r2 : Addr
  d__law_plea_r2 : FuncData
  f__law_plea_r3 : Addr
  d__law_plea_r3 : FuncData
  f__law_cords : Addr
  d__law_cords : FuncData
  f__law_letters : Addr
  d__law_letters : FuncData
  f__law_words : Addr
  d__law_words : FuncData
  f__law_shape : Addr
  d__law_shape : FuncData
  f__law_level_text : Addr
  d__law_level_text : FuncData
  f__law_written_r0 : Addr
  d__law_written_r0 : FuncData
  f__law_written_r1 : Addr
  d__law_written_r1 : FuncData
  f__law_written_r2 : Addr
  d__law_written_r2 : FuncData
  f__law_written_r3 : Addr
  d__law_written_r3 : FuncData
  f__law_right : Addr
  d__law_right : FuncData
  f_law : Addr
  d_law : FuncData
/-- what the top has written -/
structure Txt (K : PySem.W.Frag) (mg : Str → Option Value) (base : Heap) (A : CT) (x : Fx) : Prop where
  kd : KD K A
  b0 : ∀ p, Tb.base p = none
  in_Ratio : 0 ∈ A.cs
  in_Wish : 5 ∈ A.cs
  F_are_great : Fun K "are_great" "are_great" st_are_great x.f_are_great x.d_are_great
  b_are_great : Binds K x.d_are_great ["value", "least", "most"] []
  F_are_small : Fun K "are_small" "are_small" st_are_small x.f_are_small x.d_are_small
  b_are_small : Binds K x.d_are_small ["value", "least", "most"] []
  F_is_integer : Fun K "is_integer" "is_integer" st_is_integer x.f_is_integer x.d_is_integer
  b_is_integer : Binds K x.d_is_integer ["value"] []
  F_is_number : FunD K "is_number" "is_number" (defArgs st_is_number) (defBody st_is_number) (defScope st_is_number) [.non] [] x.f_is_number x.d_is_number
  b_is_number : Binds K x.d_is_number ["value", "most"] []
  F_is_moment : Fun K "is_moment" "is_moment" st_is_moment x.f_is_moment x.d_is_moment
  b_is_moment : Binds K x.d_is_moment ["value", "last"] []
  F_is_level : Fun K "is_level" "is_level" st_is_level x.f_is_level x.d_is_level
  b_is_level : Binds K x.d_is_level ["value"] []
  F_shared_factor : Fun K "shared_factor" "shared_factor" st_shared_factor x.f_shared_factor x.d_shared_factor
  b_shared_factor : Binds K x.d_shared_factor ["one", "two"] []
  F_is_more : Fun K "is_more" "is_more" st_is_more x.f_is_more x.d_is_more
  b_is_more : Binds K x.d_is_more ["value"] []
  F_is_headed : Fun K "is_headed" "is_headed" st_is_headed x.f_is_headed x.d_is_headed
  b_is_headed : Binds K x.d_is_headed ["value"] []
  F_overs_in : Fun K "overs_in" "overs_in" st_overs_in x.f_overs_in x.d_overs_in
  b_overs_in : Binds K x.d_overs_in ["form"] []
  F_Wish___init__ : Fun K "__init__" "Wish.__init__" st_Wish___init__ x.f_Wish___init__ x.d_Wish___init__
  b_Wish___init__ : Binds K x.d_Wish___init__ ["self", "form"] []
  F_Ratio___str__ : Fun K "__str__" "Ratio.__str__" st_Ratio___str__ x.f_Ratio___str__ x.d_Ratio___str__
  b_Ratio___str__ : Binds K x.d_Ratio___str__ ["self"] []
  F_Ratio___init__ : FunD K "__init__" "Ratio.__init__" (defArgs st_Ratio___init__) (defBody st_Ratio___init__) (defScope st_Ratio___init__) [.int 1] [] x.f_Ratio___init__ x.d_Ratio___init__
  b_Ratio___init__ : Binds K x.d_Ratio___init__ ["self", "top", "bottom"] []
  F_more_of : Fun K "more_of" "more_of" st_more_of x.f_more_of x.d_more_of
  b_more_of : Binds K x.d_more_of ["value"] []
  F_text_of_level : Fun K "text_of_level" "text_of_level" st_text_of_level x.f_text_of_level x.d_text_of_level
  b_text_of_level : Binds K x.d_text_of_level ["level"] []
  F_text_of_r0 : Fun K "text_of" "text_of" st_text_of_r0 x.f_text_of_r0 x.d_text_of_r0
  b_text_of_r0 : Binds K x.d_text_of_r0 ["form"] []
  F_text_of_r1 : Fun K "text_of" "text_of" st_text_of_r1 x.f_text_of_r1 x.d_text_of_r1
  b_text_of_r1 : Binds K x.d_text_of_r1 ["form"] []
  F_text_of_r2 : Fun K "text_of" "text_of" st_text_of_r2 x.f_text_of_r2 x.d_text_of_r2
  b_text_of_r2 : Binds K x.d_text_of_r2 ["form"] []
  F_text_of_r3 : Fun K "text_of" "text_of" st_text_of_r3 x.f_text_of_r3 x.d_text_of_r3
  b_text_of_r3 : Binds K x.d_text_of_r3 ["form"] []
  F_Wish___str__ : Fun K "__str__" "Wish.__str__" st_Wish___str__ x.f_Wish___str__ x.d_Wish___str__
  b_Wish___str__ : Binds K x.d_Wish___str__ ["self"] []
  F_form_in_r0 : Fun K "form_in" "form_in" st_form_in_r0 x.f_form_in_r0 x.d_form_in_r0
  b_form_in_r0 : Binds K x.d_form_in_r0 ["value", "room"] []
  F_level_in : Fun K "level_in" "level_in" st_level_in x.f_level_in x.d_level_in
  b_level_in : Binds K x.d_level_in ["text"] []
  F_is_written : Fun K "is_written" "is_written" st_is_written x.f_is_written x.d_is_written
  b_is_written : Binds K x.d_is_written ["text"] []
  F_ratio_in : Fun K "ratio_in" "ratio_in" st_ratio_in x.f_ratio_in x.d_ratio_in
  b_ratio_in : Binds K x.d_ratio_in ["text"] []
  F_more_in : Fun K "more_in" "more_in" st_more_in x.f_more_in x.d_more_in
  b_more_in : Binds K x.d_more_in ["word"] []
  F_form_in_r1 : Fun K "form_in" "form_in" st_form_in_r1 x.f_form_in_r1 x.d_form_in_r1
  b_form_in_r1 : Binds K x.d_form_in_r1 ["value", "room"] []
  F_form_in_r2 : Fun K "form_in" "form_in" st_form_in_r2 x.f_form_in_r2 x.d_form_in_r2
  b_form_in_r2 : Binds K x.d_form_in_r2 ["value", "room"] []
  F_form_in_r3 : Fun K "form_in" "form_in" st_form_in_r3 x.f_form_in_r3 x.d_form_in_r3
  b_form_in_r3 : Binds K x.d_form_in_r3 ["value", "room"] []
  F_nested : Fun K "nested" "nested" st_nested x.f_nested x.d_nested
  b_nested : Binds K x.d_nested ["text"] []
  F_wish_in : Fun K "wish_in" "wish_in" st_wish_in x.f_wish_in x.d_wish_in
  b_wish_in : Binds K x.d_wish_in ["text"] []
  F_Wish_read : Fun K "read" "Wish.read" st_Wish_read x.f_Wish_read x.d_Wish_read
  b_Wish_read : Binds K x.d_Wish_read ["text"] []
  F__law_bag : Fun K "_law_bag" "_law_bag" st__law_bag x.f__law_bag x.d__law_bag
  b__law_bag : Binds K x.d__law_bag ["_law_cells", "_law_k"] []
  F_Wish___eq__ : Fun K "__eq__" "Wish.__eq__" st_Wish___eq__ x.f_Wish___eq__ x.d_Wish___eq__
  b_Wish___eq__ : Binds K x.d_Wish___eq__ ["self", "other"] []
  F__law_draw : Fun K "_law_draw" "_law_draw" st__law_draw x.f__law_draw x.d__law_draw
  b__law_draw : Binds K x.d__law_draw ["_law_bag_here", "_law_wide"] []
  F__law_one : Fun K "_law_one" "_law_one" st__law_one x.f__law_one x.d__law_one
  b__law_one : Binds K x.d__law_one ["_law_bag_here", "_law_some"] []
  F__law_level : Fun K "_law_level" "_law_level" st__law_level x.f__law_level x.d__law_level
  b__law_level : Binds K x.d__law_level ["_law_bag_here", "_law_shape_here", "_law_far_when"] []
  F__law_more : Fun K "_law_more" "_law_more" st__law_more x.f__law_more x.d__law_more
  b__law_more : Binds K x.d__law_more ["_law_bag_here"] []
  F__law_plea_r0 : Fun K "_law_plea" "_law_plea" st__law_plea_r0 x.f__law_plea_r0 x.d__law_plea_r0
  b__law_plea_r0 : Binds K x.d__law_plea_r0 ["_law_bag_here", "_law_shape_here", "_law_far_when", "_law_room"] []
  F__law_plea_r1 : Fun K "_law_plea" "_law_plea" st__law_plea_r1 x.f__law_plea_r1 x.d__law_plea_r1
  b__law_plea_r1 : Binds K x.d__law_plea_r1 ["_law_bag_here", "_law_shape_here", "_law_far_when", "_law_room"] []
  F__law_plea_r2 : Fun K "_law_plea" "_law_plea" st__law_plea_r2 x.f__law_plea_r2 x.d__law_plea_r2
  b__law_plea_r2 : Binds K x.d__law_plea_r2 ["_law_bag_here", "_law_shape_here", "_law_far_when", "_law_room"] []
  F__law_plea_r3 : Fun K "_law_plea" "_law_plea" st__law_plea_r3 x.f__law_plea_r3 x.d__law_plea_r3
  b__law_plea_r3 : Binds K x.d__law_plea_r3 ["_law_bag_here", "_law_shape_here", "_law_far_when", "_law_room"] []
  F__law_cords : Fun K "_law_cords" "_law_cords" st__law_cords x.f__law_cords x.d__law_cords
  b__law_cords : Binds K x.d__law_cords ["_law_bag_here", "_law_limbs"] []
  F__law_letters : Fun K "_law_letters" "_law_letters" st__law_letters x.f__law_letters x.d__law_letters
  b__law_letters : Binds K x.d__law_letters ["_law_bag_here", "_law_pool", "_law_many"] []
  F__law_words : Fun K "_law_words" "_law_words" st__law_words x.f__law_words x.d__law_words
  b__law_words : Binds K x.d__law_words ["_law_bag_here", "_law_many"] []
  F__law_shape : Fun K "_law_shape" "_law_shape" st__law_shape x.f__law_shape x.d__law_shape
  b__law_shape : Binds K x.d__law_shape ["_law_bag_here"] []
  F__law_level_text : Fun K "_law_level_text" "_law_level_text" st__law_level_text x.f__law_level_text x.d__law_level_text
  b__law_level_text : Binds K x.d__law_level_text ["_law_level_here"] []
  F__law_written_r0 : Fun K "_law_written" "_law_written" st__law_written_r0 x.f__law_written_r0 x.d__law_written_r0
  b__law_written_r0 : Binds K x.d__law_written_r0 ["_law_plea_here"] []
  F__law_written_r1 : Fun K "_law_written" "_law_written" st__law_written_r1 x.f__law_written_r1 x.d__law_written_r1
  b__law_written_r1 : Binds K x.d__law_written_r1 ["_law_plea_here"] []
  F__law_written_r2 : Fun K "_law_written" "_law_written" st__law_written_r2 x.f__law_written_r2 x.d__law_written_r2
  b__law_written_r2 : Binds K x.d__law_written_r2 ["_law_plea_here"] []
  F__law_written_r3 : Fun K "_law_written" "_law_written" st__law_written_r3 x.f__law_written_r3 x.d__law_written_r3
  b__law_written_r3 : Binds K x.d__law_written_r3 ["_law_plea_here"] []
  F__law_right : Fun K "_law_right" "_law_right" st__law_right x.f__law_right x.d__law_right
  b__law_right : Binds K x.d__law_right ["_law_bag_here"] []
  F_law : Fun K "law" "law" st_law x.f_law x.d_law
  b_law : Binds K x.d_law ["_law_cells"] []
  g__law_bag : mg "_law_bag" = some (.ref x.f__law_bag)
  g__law_cords : mg "_law_cords" = some (.ref x.f__law_cords)
  g__law_draw : mg "_law_draw" = some (.ref x.f__law_draw)
  g__law_letters : mg "_law_letters" = some (.ref x.f__law_letters)
  g__law_level : mg "_law_level" = some (.ref x.f__law_level)
  g__law_level_text : mg "_law_level_text" = some (.ref x.f__law_level_text)
  g__law_more : mg "_law_more" = some (.ref x.f__law_more)
  g__law_one : mg "_law_one" = some (.ref x.f__law_one)
  g__law_plea_r0 : mg "_law_plea" = some (.ref x.f__law_plea_r0)
  g__law_plea_r1 : mg "_law_plea" = some (.ref x.f__law_plea_r1)
  g__law_plea_r2 : mg "_law_plea" = some (.ref x.f__law_plea_r2)
  g__law_plea_r3 : mg "_law_plea" = some (.ref x.f__law_plea_r3)
  g__law_right : mg "_law_right" = some (.ref x.f__law_right)
  g__law_shape : mg "_law_shape" = some (.ref x.f__law_shape)
  g__law_words : mg "_law_words" = some (.ref x.f__law_words)
  g__law_written_r0 : mg "_law_written" = some (.ref x.f__law_written_r0)
  g__law_written_r1 : mg "_law_written" = some (.ref x.f__law_written_r1)
  g__law_written_r2 : mg "_law_written" = some (.ref x.f__law_written_r2)
  g__law_written_r3 : mg "_law_written" = some (.ref x.f__law_written_r3)
  g_are_great : mg "are_great" = some (.ref x.f_are_great)
  g_are_small : mg "are_small" = some (.ref x.f_are_small)
  g_form_in_r0 : mg "form_in" = some (.ref x.f_form_in_r0)
  g_form_in_r1 : mg "form_in" = some (.ref x.f_form_in_r1)
  g_form_in_r2 : mg "form_in" = some (.ref x.f_form_in_r2)
  g_form_in_r3 : mg "form_in" = some (.ref x.f_form_in_r3)
  g_is_headed : mg "is_headed" = some (.ref x.f_is_headed)
  g_is_integer : mg "is_integer" = some (.ref x.f_is_integer)
  g_is_level : mg "is_level" = some (.ref x.f_is_level)
  g_is_moment : mg "is_moment" = some (.ref x.f_is_moment)
  g_is_more : mg "is_more" = some (.ref x.f_is_more)
  g_is_number : mg "is_number" = some (.ref x.f_is_number)
  g_is_written : mg "is_written" = some (.ref x.f_is_written)
  g_level_in : mg "level_in" = some (.ref x.f_level_in)
  g_more_in : mg "more_in" = some (.ref x.f_more_in)
  g_more_of : mg "more_of" = some (.ref x.f_more_of)
  g_nested : mg "nested" = some (.ref x.f_nested)
  g_overs_in : mg "overs_in" = some (.ref x.f_overs_in)
  g_ratio_in : mg "ratio_in" = some (.ref x.f_ratio_in)
  g_shared_factor : mg "shared_factor" = some (.ref x.f_shared_factor)
  g_text_of_level : mg "text_of_level" = some (.ref x.f_text_of_level)
  g_text_of_r0 : mg "text_of" = some (.ref x.f_text_of_r0)
  g_text_of_r1 : mg "text_of" = some (.ref x.f_text_of_r1)
  g_text_of_r2 : mg "text_of" = some (.ref x.f_text_of_r2)
  g_text_of_r3 : mg "text_of" = some (.ref x.f_text_of_r3)
  g_wish_in : mg "wish_in" = some (.ref x.f_wish_in)
  n_abs : mg "abs" = none
  n_all : mg "all" = none
  n_bool : mg "bool" = none
  n_int : mg "int" = none
  n_isinstance : mg "isinstance" = none
  n_len : mg "len" = none
  n_list : mg "list" = none
  n_max : mg "max" = none
  n_min : mg "min" = none
  n_range : mg "range" = none
  n_sorted : mg "sorted" = none
  n_str : mg "str" = none
  n_tuple : mg "tuple" = none
  k_LONGEST : ∃ t, mg "LONGEST" = some (.int 2000 t)
  k_MOST_DEPTH : ∃ t, mg "MOST_DEPTH" = some (.int 4 t)
  k_MOST_MOVES : ∃ t, mg "MOST_MOVES" = some (.int 6 t)
  k_MOST_OVERS : ∃ t, mg "MOST_OVERS" = some (.int 8 t)
  k_MOST_WISHES : ∃ t, mg "MOST_WISHES" = some (.int 6 t)
  g_Ratio : mg "Ratio" = some (.ref (A.ad 0))
  cl_Ratio : Cls K (A.ad 0)
  nl_Ratio : (A.nms 0).length ≤ 900
  sf_Ratio : PySem.W.selfFirst K (A.ad 0) = true
  int_Ratio : PySem.W.subIn K (.type "int") (.ref (A.ad 0)) = some false
  sub_Ratio : PySem.W.subIn K (.ref (A.ad 0)) (.type "int") = some false
  mk_Ratio : Mk K (A.ad 0) x.f_Ratio___init__
  g_Wish : mg "Wish" = some (.ref (A.ad 5))
  cl_Wish : Cls K (A.ad 5)
  nl_Wish : (A.nms 5).length ≤ 900
  sf_Wish : PySem.W.selfFirst K (A.ad 5) = true
  int_Wish : PySem.W.subIn K (.type "int") (.ref (A.ad 5)) = some false
  sub_Wish : PySem.W.subIn K (.ref (A.ad 5)) (.type "int") = some false
  mk_Wish : Mk K (A.ad 5) x.f_Wish___init__
  fl_Ratio_bottom : FldOk K A 0 1 "bottom"
  fl_Ratio_top : FldOk K A 0 0 "top"
  fl_Wish_form : FldOk K A 5 0 "form"
  sm_Wish_read : SL.SMeth K (A.ad 5) "read" x.f_Wish_read
  o_Wish_eq : OwnOp K (A.ad 5) x.f_Wish___eq__ "__eq__"
  ne_Wish : PySem.W.findIn K (.ref (A.ad 5)) "__ne__" = some (some (.builtin "object.__ne__"))
  ob_Wish : PySem.W.subIn K (.ref (A.ad 5)) (.type "object") = some true
  o_Ratio_str : OwnOp K (A.ad 0) x.f_Ratio___str__ "__str__"
  o_Wish_str : OwnOp K (A.ad 5) x.f_Wish___str__ "__str__"
  kb_Wish___init___0_form : ∃ g, KBn K x.d_Wish___init__ ["self", "form"] 1 ["form"] g (prm [0])
  kb_Wish_read_0_text : ∃ g, KBn K x.d_Wish_read ["text"] 0 ["text"] g (prm [0])
  bd_Ratio___init___1 : ∃ ds, Vals [.int 1] ds ∧ Binds K x.d_Ratio___init__ ["self", "top", "bottom"] ds
theorem Txt.kp_are_great {K : PySem.W.Frag} {mg : Str → Option Value} {base : Heap} {A : CT} {x : Fx} (T : Txt K mg base A x) : PySem.W.keepIn K (.ref x.f_are_great) = true := T.F_are_great.kp
theorem Txt.kp_are_small {K : PySem.W.Frag} {mg : Str → Option Value} {base : Heap} {A : CT} {x : Fx} (T : Txt K mg base A x) : PySem.W.keepIn K (.ref x.f_are_small) = true := T.F_are_small.kp
theorem Txt.kp_is_integer {K : PySem.W.Frag} {mg : Str → Option Value} {base : Heap} {A : CT} {x : Fx} (T : Txt K mg base A x) : PySem.W.keepIn K (.ref x.f_is_integer) = true := T.F_is_integer.kp
theorem Txt.kp_is_number {K : PySem.W.Frag} {mg : Str → Option Value} {base : Heap} {A : CT} {x : Fx} (T : Txt K mg base A x) : PySem.W.keepIn K (.ref x.f_is_number) = true := T.F_is_number.kp
theorem Txt.kp_is_moment {K : PySem.W.Frag} {mg : Str → Option Value} {base : Heap} {A : CT} {x : Fx} (T : Txt K mg base A x) : PySem.W.keepIn K (.ref x.f_is_moment) = true := T.F_is_moment.kp
theorem Txt.kp_is_level {K : PySem.W.Frag} {mg : Str → Option Value} {base : Heap} {A : CT} {x : Fx} (T : Txt K mg base A x) : PySem.W.keepIn K (.ref x.f_is_level) = true := T.F_is_level.kp
theorem Txt.kp_shared_factor {K : PySem.W.Frag} {mg : Str → Option Value} {base : Heap} {A : CT} {x : Fx} (T : Txt K mg base A x) : PySem.W.keepIn K (.ref x.f_shared_factor) = true := T.F_shared_factor.kp
theorem Txt.kp_is_more {K : PySem.W.Frag} {mg : Str → Option Value} {base : Heap} {A : CT} {x : Fx} (T : Txt K mg base A x) : PySem.W.keepIn K (.ref x.f_is_more) = true := T.F_is_more.kp
theorem Txt.kp_is_headed {K : PySem.W.Frag} {mg : Str → Option Value} {base : Heap} {A : CT} {x : Fx} (T : Txt K mg base A x) : PySem.W.keepIn K (.ref x.f_is_headed) = true := T.F_is_headed.kp
theorem Txt.kp_overs_in {K : PySem.W.Frag} {mg : Str → Option Value} {base : Heap} {A : CT} {x : Fx} (T : Txt K mg base A x) : PySem.W.keepIn K (.ref x.f_overs_in) = true := T.F_overs_in.kp
theorem Txt.kp_Wish___init__ {K : PySem.W.Frag} {mg : Str → Option Value} {base : Heap} {A : CT} {x : Fx} (T : Txt K mg base A x) : PySem.W.keepIn K (.ref x.f_Wish___init__) = true := T.F_Wish___init__.kp
theorem Txt.kp_Ratio___str__ {K : PySem.W.Frag} {mg : Str → Option Value} {base : Heap} {A : CT} {x : Fx} (T : Txt K mg base A x) : PySem.W.keepIn K (.ref x.f_Ratio___str__) = true := T.F_Ratio___str__.kp
theorem Txt.kp_Ratio___init__ {K : PySem.W.Frag} {mg : Str → Option Value} {base : Heap} {A : CT} {x : Fx} (T : Txt K mg base A x) : PySem.W.keepIn K (.ref x.f_Ratio___init__) = true := T.F_Ratio___init__.kp
theorem Txt.kp_more_of {K : PySem.W.Frag} {mg : Str → Option Value} {base : Heap} {A : CT} {x : Fx} (T : Txt K mg base A x) : PySem.W.keepIn K (.ref x.f_more_of) = true := T.F_more_of.kp
theorem Txt.kp_text_of_level {K : PySem.W.Frag} {mg : Str → Option Value} {base : Heap} {A : CT} {x : Fx} (T : Txt K mg base A x) : PySem.W.keepIn K (.ref x.f_text_of_level) = true := T.F_text_of_level.kp
theorem Txt.kp_text_of_r0 {K : PySem.W.Frag} {mg : Str → Option Value} {base : Heap} {A : CT} {x : Fx} (T : Txt K mg base A x) : PySem.W.keepIn K (.ref x.f_text_of_r0) = true := T.F_text_of_r0.kp
theorem Txt.kp_text_of_r1 {K : PySem.W.Frag} {mg : Str → Option Value} {base : Heap} {A : CT} {x : Fx} (T : Txt K mg base A x) : PySem.W.keepIn K (.ref x.f_text_of_r1) = true := T.F_text_of_r1.kp
theorem Txt.kp_text_of_r2 {K : PySem.W.Frag} {mg : Str → Option Value} {base : Heap} {A : CT} {x : Fx} (T : Txt K mg base A x) : PySem.W.keepIn K (.ref x.f_text_of_r2) = true := T.F_text_of_r2.kp
theorem Txt.kp_text_of_r3 {K : PySem.W.Frag} {mg : Str → Option Value} {base : Heap} {A : CT} {x : Fx} (T : Txt K mg base A x) : PySem.W.keepIn K (.ref x.f_text_of_r3) = true := T.F_text_of_r3.kp
theorem Txt.kp_Wish___str__ {K : PySem.W.Frag} {mg : Str → Option Value} {base : Heap} {A : CT} {x : Fx} (T : Txt K mg base A x) : PySem.W.keepIn K (.ref x.f_Wish___str__) = true := T.F_Wish___str__.kp
theorem Txt.kp_form_in_r0 {K : PySem.W.Frag} {mg : Str → Option Value} {base : Heap} {A : CT} {x : Fx} (T : Txt K mg base A x) : PySem.W.keepIn K (.ref x.f_form_in_r0) = true := T.F_form_in_r0.kp
theorem Txt.kp_level_in {K : PySem.W.Frag} {mg : Str → Option Value} {base : Heap} {A : CT} {x : Fx} (T : Txt K mg base A x) : PySem.W.keepIn K (.ref x.f_level_in) = true := T.F_level_in.kp
theorem Txt.kp_is_written {K : PySem.W.Frag} {mg : Str → Option Value} {base : Heap} {A : CT} {x : Fx} (T : Txt K mg base A x) : PySem.W.keepIn K (.ref x.f_is_written) = true := T.F_is_written.kp
theorem Txt.kp_ratio_in {K : PySem.W.Frag} {mg : Str → Option Value} {base : Heap} {A : CT} {x : Fx} (T : Txt K mg base A x) : PySem.W.keepIn K (.ref x.f_ratio_in) = true := T.F_ratio_in.kp
theorem Txt.kp_more_in {K : PySem.W.Frag} {mg : Str → Option Value} {base : Heap} {A : CT} {x : Fx} (T : Txt K mg base A x) : PySem.W.keepIn K (.ref x.f_more_in) = true := T.F_more_in.kp
theorem Txt.kp_form_in_r1 {K : PySem.W.Frag} {mg : Str → Option Value} {base : Heap} {A : CT} {x : Fx} (T : Txt K mg base A x) : PySem.W.keepIn K (.ref x.f_form_in_r1) = true := T.F_form_in_r1.kp
theorem Txt.kp_form_in_r2 {K : PySem.W.Frag} {mg : Str → Option Value} {base : Heap} {A : CT} {x : Fx} (T : Txt K mg base A x) : PySem.W.keepIn K (.ref x.f_form_in_r2) = true := T.F_form_in_r2.kp
theorem Txt.kp_form_in_r3 {K : PySem.W.Frag} {mg : Str → Option Value} {base : Heap} {A : CT} {x : Fx} (T : Txt K mg base A x) : PySem.W.keepIn K (.ref x.f_form_in_r3) = true := T.F_form_in_r3.kp
theorem Txt.kp_nested {K : PySem.W.Frag} {mg : Str → Option Value} {base : Heap} {A : CT} {x : Fx} (T : Txt K mg base A x) : PySem.W.keepIn K (.ref x.f_nested) = true := T.F_nested.kp
theorem Txt.kp_wish_in {K : PySem.W.Frag} {mg : Str → Option Value} {base : Heap} {A : CT} {x : Fx} (T : Txt K mg base A x) : PySem.W.keepIn K (.ref x.f_wish_in) = true := T.F_wish_in.kp
theorem Txt.kp_Wish_read {K : PySem.W.Frag} {mg : Str → Option Value} {base : Heap} {A : CT} {x : Fx} (T : Txt K mg base A x) : PySem.W.keepIn K (.ref x.f_Wish_read) = true := T.F_Wish_read.kp
theorem Txt.kp__law_bag {K : PySem.W.Frag} {mg : Str → Option Value} {base : Heap} {A : CT} {x : Fx} (T : Txt K mg base A x) : PySem.W.keepIn K (.ref x.f__law_bag) = true := T.F__law_bag.kp
theorem Txt.kp_Wish___eq__ {K : PySem.W.Frag} {mg : Str → Option Value} {base : Heap} {A : CT} {x : Fx} (T : Txt K mg base A x) : PySem.W.keepIn K (.ref x.f_Wish___eq__) = true := T.F_Wish___eq__.kp
theorem Txt.kp__law_draw {K : PySem.W.Frag} {mg : Str → Option Value} {base : Heap} {A : CT} {x : Fx} (T : Txt K mg base A x) : PySem.W.keepIn K (.ref x.f__law_draw) = true := T.F__law_draw.kp
theorem Txt.kp__law_one {K : PySem.W.Frag} {mg : Str → Option Value} {base : Heap} {A : CT} {x : Fx} (T : Txt K mg base A x) : PySem.W.keepIn K (.ref x.f__law_one) = true := T.F__law_one.kp
theorem Txt.kp__law_level {K : PySem.W.Frag} {mg : Str → Option Value} {base : Heap} {A : CT} {x : Fx} (T : Txt K mg base A x) : PySem.W.keepIn K (.ref x.f__law_level) = true := T.F__law_level.kp
theorem Txt.kp__law_more {K : PySem.W.Frag} {mg : Str → Option Value} {base : Heap} {A : CT} {x : Fx} (T : Txt K mg base A x) : PySem.W.keepIn K (.ref x.f__law_more) = true := T.F__law_more.kp
theorem Txt.kp__law_plea_r0 {K : PySem.W.Frag} {mg : Str → Option Value} {base : Heap} {A : CT} {x : Fx} (T : Txt K mg base A x) : PySem.W.keepIn K (.ref x.f__law_plea_r0) = true := T.F__law_plea_r0.kp
theorem Txt.kp__law_plea_r1 {K : PySem.W.Frag} {mg : Str → Option Value} {base : Heap} {A : CT} {x : Fx} (T : Txt K mg base A x) : PySem.W.keepIn K (.ref x.f__law_plea_r1) = true := T.F__law_plea_r1.kp
theorem Txt.kp__law_plea_r2 {K : PySem.W.Frag} {mg : Str → Option Value} {base : Heap} {A : CT} {x : Fx} (T : Txt K mg base A x) : PySem.W.keepIn K (.ref x.f__law_plea_r2) = true := T.F__law_plea_r2.kp
theorem Txt.kp__law_plea_r3 {K : PySem.W.Frag} {mg : Str → Option Value} {base : Heap} {A : CT} {x : Fx} (T : Txt K mg base A x) : PySem.W.keepIn K (.ref x.f__law_plea_r3) = true := T.F__law_plea_r3.kp
theorem Txt.kp__law_cords {K : PySem.W.Frag} {mg : Str → Option Value} {base : Heap} {A : CT} {x : Fx} (T : Txt K mg base A x) : PySem.W.keepIn K (.ref x.f__law_cords) = true := T.F__law_cords.kp
theorem Txt.kp__law_letters {K : PySem.W.Frag} {mg : Str → Option Value} {base : Heap} {A : CT} {x : Fx} (T : Txt K mg base A x) : PySem.W.keepIn K (.ref x.f__law_letters) = true := T.F__law_letters.kp
theorem Txt.kp__law_words {K : PySem.W.Frag} {mg : Str → Option Value} {base : Heap} {A : CT} {x : Fx} (T : Txt K mg base A x) : PySem.W.keepIn K (.ref x.f__law_words) = true := T.F__law_words.kp
theorem Txt.kp__law_shape {K : PySem.W.Frag} {mg : Str → Option Value} {base : Heap} {A : CT} {x : Fx} (T : Txt K mg base A x) : PySem.W.keepIn K (.ref x.f__law_shape) = true := T.F__law_shape.kp
theorem Txt.kp__law_level_text {K : PySem.W.Frag} {mg : Str → Option Value} {base : Heap} {A : CT} {x : Fx} (T : Txt K mg base A x) : PySem.W.keepIn K (.ref x.f__law_level_text) = true := T.F__law_level_text.kp
theorem Txt.kp__law_written_r0 {K : PySem.W.Frag} {mg : Str → Option Value} {base : Heap} {A : CT} {x : Fx} (T : Txt K mg base A x) : PySem.W.keepIn K (.ref x.f__law_written_r0) = true := T.F__law_written_r0.kp
theorem Txt.kp__law_written_r1 {K : PySem.W.Frag} {mg : Str → Option Value} {base : Heap} {A : CT} {x : Fx} (T : Txt K mg base A x) : PySem.W.keepIn K (.ref x.f__law_written_r1) = true := T.F__law_written_r1.kp
theorem Txt.kp__law_written_r2 {K : PySem.W.Frag} {mg : Str → Option Value} {base : Heap} {A : CT} {x : Fx} (T : Txt K mg base A x) : PySem.W.keepIn K (.ref x.f__law_written_r2) = true := T.F__law_written_r2.kp
theorem Txt.kp__law_written_r3 {K : PySem.W.Frag} {mg : Str → Option Value} {base : Heap} {A : CT} {x : Fx} (T : Txt K mg base A x) : PySem.W.keepIn K (.ref x.f__law_written_r3) = true := T.F__law_written_r3.kp
theorem Txt.kp__law_right {K : PySem.W.Frag} {mg : Str → Option Value} {base : Heap} {A : CT} {x : Fx} (T : Txt K mg base A x) : PySem.W.keepIn K (.ref x.f__law_right) = true := T.F__law_right.kp
theorem Txt.kp_law {K : PySem.W.Frag} {mg : Str → Option Value} {base : Heap} {A : CT} {x : Fx} (T : Txt K mg base A x) : PySem.W.keepIn K (.ref x.f_law) = true := T.F_law.kp
end Tbs
/-- what is wanted of the law's own def -/
def OkLaw : Prop := ∀ [Tb] (P : Program) (w : World) (K : PySem.W.Frag) (mg : Str → Option Value) (base : Heap) (A : CT) (x : Fx), Txt K mg base A x → FnOk P w K mg base (L2.CX P w) 22 x.f_law x.d_law ["_law_cells"] (sp_law K)
/-! ### what the top has written, gathered -/
theorem all_mk (OL : OkLaw) {l : PySem.W.OpenLaw} {q : Program} {w : World} {K : PySem.W.Frag} {h : Heap} {mg : Str → Option Value} {fa : Addr} (X : K.In h) (G : h.Ns mainGlobals mg) (hfa : mg "law" = some (.ref fa))
    (tab : ∀ (x : Str) (c P : Addr), ((PyProof.Rows.recsOf q).any fun e => e.name == x) = true → PySem.W.tabIn K x = some (c, P) → PySem.W.CodeHd h c P ∧ h.get? P = some { cls := .none, data := .fields #[] })
    {C_Ratio : Addr}
    {C_Wish : Addr}
    {f_are_great : Addr}
    {f_are_small : Addr}
    {f_is_integer : Addr}
    {f_is_number : Addr} {od_is_number an_is_number : Option Addr} {sl_is_number : Array (Option Value)} {oc_is_number kV_is_number dc_is_number pm_is_number cd_is_number ct_is_number : Value}
    {dt_is_number : Addr} {to_is_number : Value} {td_is_number : Option Addr} {tn_is_number : Nat} {ts_is_number : Array (Option Value)} {tv_is_number : Array Value}
    {f_is_moment : Addr}
    {f_is_level : Addr}
    {f_shared_factor : Addr}
    {f_is_more : Addr}
    {f_is_headed : Addr}
    {f_overs_in : Addr}
    {f_Wish___init__ : Addr}
    {f_Ratio___str__ : Addr}
    {f_Ratio___init__ : Addr} {od_Ratio___init__ an_Ratio___init__ : Option Addr} {sl_Ratio___init__ : Array (Option Value)} {oc_Ratio___init__ kV_Ratio___init__ dc_Ratio___init__ pm_Ratio___init__ cd_Ratio___init__ ct_Ratio___init__ : Value}
    {dt_Ratio___init__ : Addr} {to_Ratio___init__ : Value} {td_Ratio___init__ : Option Addr} {tn_Ratio___init__ : Nat} {ts_Ratio___init__ : Array (Option Value)} {tv_Ratio___init__ : Array Value}
    {f_more_of : Addr}
    {f_text_of_level : Addr}
    {f_text_of_r0 : Addr}
    {f_text_of_r1 : Addr}
    {f_text_of_r2 : Addr}
    {f_text_of_r3 : Addr}
    {f_Wish___str__ : Addr}
    {f_form_in_r0 : Addr}
    {f_level_in : Addr}
    {f_is_written : Addr}
    {f_ratio_in : Addr}
    {f_more_in : Addr}
    {f_form_in_r1 : Addr}
    {f_form_in_r2 : Addr}
    {f_form_in_r3 : Addr}
    {f_nested : Addr}
    {f_wish_in : Addr}
    {f_Wish_read : Addr}
    {sp_Wish_read : Addr} {sr_Wish_read : List Value} {mc_Wish_read : Value}
    {f__law_bag : Addr}
    {f_Wish___eq__ : Addr}
    {f__law_draw : Addr}
    {f__law_one : Addr}
    {f__law_level : Addr}
    {f__law_more : Addr}
    {f__law_plea_r0 : Addr}
    {f__law_plea_r1 : Addr}
    {f__law_plea_r2 : Addr}
    {f__law_plea_r3 : Addr}
    {f__law_cords : Addr}
    {f__law_letters : Addr}
    {f__law_words : Addr}
    {f__law_shape : Addr}
    {f__law_level_text : Addr}
    {f__law_written_r0 : Addr}
    {f__law_written_r1 : Addr}
    {f__law_written_r2 : Addr}
    {f__law_written_r3 : Addr}
    {f__law_right : Addr}
    {f_law : Addr} {od_law an_law : Option Addr} {sl_law : Array (Option Value)} {oc_law kV_law dc_law pm_law cd_law ct_law : Value}
    {tk_LONGEST : Tok}
    {tk_MOST_DEPTH : Tok}
    {tk_MOST_MOVES : Tok}
    {tk_MOST_OVERS : Tok}
    {tk_MOST_WISHES : Tok}
    (aC_Ratio : PySem.W.nsIn K mainGlobals "Ratio" = some (some (.ref C_Ratio)))
    (aC_Wish : PySem.W.nsIn K mainGlobals "Wish" = some (some (.ref C_Wish)))
    (a_are_great : PySem.W.nsIn K mainGlobals "are_great" = some (some (.ref f_are_great)))
    (E_are_great : ∃ d, Fun K "are_great" "are_great" st_are_great f_are_great d)
    (a_are_small : PySem.W.nsIn K mainGlobals "are_small" = some (some (.ref f_are_small)))
    (E_are_small : ∃ d, Fun K "are_small" "are_small" st_are_small f_are_small d)
    (a_is_integer : PySem.W.nsIn K mainGlobals "is_integer" = some (some (.ref f_is_integer)))
    (E_is_integer : ∃ d, Fun K "is_integer" "is_integer" st_is_integer f_is_integer d)
    (a_is_number : PySem.W.nsIn K mainGlobals "is_number" = some (some (.ref f_is_number)))
    (l_is_number : K.lookup f_is_number = some ⟨oc_is_number, od_is_number, .func (unop% fd is_number), sl_is_number⟩)
    (c_is_number : PySem.W.codeIn K cd_is_number "is_number" = true)
    (k_is_number : PySem.W.keepIn K (.ref f_is_number) = true)
    (t_is_number : K.lookup dt_is_number = some ⟨to_is_number, td_is_number, .seq tv_is_number tn_is_number, ts_is_number⟩)
    (u_is_number : Vals [.non] tv_is_number.toList)
    (a_is_moment : PySem.W.nsIn K mainGlobals "is_moment" = some (some (.ref f_is_moment)))
    (E_is_moment : ∃ d, Fun K "is_moment" "is_moment" st_is_moment f_is_moment d)
    (a_is_level : PySem.W.nsIn K mainGlobals "is_level" = some (some (.ref f_is_level)))
    (E_is_level : ∃ d, Fun K "is_level" "is_level" st_is_level f_is_level d)
    (a_shared_factor : PySem.W.nsIn K mainGlobals "shared_factor" = some (some (.ref f_shared_factor)))
    (E_shared_factor : ∃ d, Fun K "shared_factor" "shared_factor" st_shared_factor f_shared_factor d)
    (a_is_more : PySem.W.nsIn K mainGlobals "is_more" = some (some (.ref f_is_more)))
    (E_is_more : ∃ d, Fun K "is_more" "is_more" st_is_more f_is_more d)
    (a_is_headed : PySem.W.nsIn K mainGlobals "is_headed" = some (some (.ref f_is_headed)))
    (E_is_headed : ∃ d, Fun K "is_headed" "is_headed" st_is_headed f_is_headed d)
    (a_overs_in : PySem.W.nsIn K mainGlobals "overs_in" = some (some (.ref f_overs_in)))
    (E_overs_in : ∃ d, Fun K "overs_in" "overs_in" st_overs_in f_overs_in d)
    (a_Wish___init__ : PySem.W.findIn K (.ref C_Wish) "__init__" = some (some (.ref f_Wish___init__)))
    (i_Wish___init__ : PySem.W.isFn K (.ref f_Wish___init__) = true)
    (E_Wish___init__ : ∃ d, Fun K "__init__" "Wish.__init__" st_Wish___init__ f_Wish___init__ d)
    (a_Ratio___str__ : PySem.W.findIn K (.ref C_Ratio) "__str__" = some (some (.ref f_Ratio___str__)))
    (i_Ratio___str__ : PySem.W.isFn K (.ref f_Ratio___str__) = true)
    (E_Ratio___str__ : ∃ d, Fun K "__str__" "Ratio.__str__" st_Ratio___str__ f_Ratio___str__ d)
    (a_Ratio___init__ : PySem.W.findIn K (.ref C_Ratio) "__init__" = some (some (.ref f_Ratio___init__)))
    (i_Ratio___init__ : PySem.W.isFn K (.ref f_Ratio___init__) = true)
    (l_Ratio___init__ : K.lookup f_Ratio___init__ = some ⟨oc_Ratio___init__, od_Ratio___init__, .func (unop% fd Ratio___init__), sl_Ratio___init__⟩)
    (c_Ratio___init__ : PySem.W.codeIn K cd_Ratio___init__ "Ratio.__init__" = true)
    (k_Ratio___init__ : PySem.W.keepIn K (.ref f_Ratio___init__) = true)
    (t_Ratio___init__ : K.lookup dt_Ratio___init__ = some ⟨to_Ratio___init__, td_Ratio___init__, .seq tv_Ratio___init__ tn_Ratio___init__, ts_Ratio___init__⟩)
    (u_Ratio___init__ : Vals [.int 1] tv_Ratio___init__.toList)
    (a_more_of : PySem.W.nsIn K mainGlobals "more_of" = some (some (.ref f_more_of)))
    (E_more_of : ∃ d, Fun K "more_of" "more_of" st_more_of f_more_of d)
    (a_text_of_level : PySem.W.nsIn K mainGlobals "text_of_level" = some (some (.ref f_text_of_level)))
    (E_text_of_level : ∃ d, Fun K "text_of_level" "text_of_level" st_text_of_level f_text_of_level d)
    (a_text_of_r0 : PySem.W.nsIn K mainGlobals "text_of" = some (some (.ref f_text_of_r0)))
    (E_text_of_r0 : ∃ d, Fun K "text_of" "text_of" st_text_of_r0 f_text_of_r0 d)
    (a_text_of_r1 : PySem.W.nsIn K mainGlobals "text_of" = some (some (.ref f_text_of_r1)))
    (E_text_of_r1 : ∃ d, Fun K "text_of" "text_of" st_text_of_r1 f_text_of_r1 d)
    (a_text_of_r2 : PySem.W.nsIn K mainGlobals "text_of" = some (some (.ref f_text_of_r2)))
    (E_text_of_r2 : ∃ d, Fun K "text_of" "text_of" st_text_of_r2 f_text_of_r2 d)
    (a_text_of_r3 : PySem.W.nsIn K mainGlobals "text_of" = some (some (.ref f_text_of_r3)))
    (E_text_of_r3 : ∃ d, Fun K "text_of" "text_of" st_text_of_r3 f_text_of_r3 d)
    (a_Wish___str__ : PySem.W.findIn K (.ref C_Wish) "__str__" = some (some (.ref f_Wish___str__)))
    (i_Wish___str__ : PySem.W.isFn K (.ref f_Wish___str__) = true)
    (E_Wish___str__ : ∃ d, Fun K "__str__" "Wish.__str__" st_Wish___str__ f_Wish___str__ d)
    (a_form_in_r0 : PySem.W.nsIn K mainGlobals "form_in" = some (some (.ref f_form_in_r0)))
    (E_form_in_r0 : ∃ d, Fun K "form_in" "form_in" st_form_in_r0 f_form_in_r0 d)
    (a_level_in : PySem.W.nsIn K mainGlobals "level_in" = some (some (.ref f_level_in)))
    (E_level_in : ∃ d, Fun K "level_in" "level_in" st_level_in f_level_in d)
    (a_is_written : PySem.W.nsIn K mainGlobals "is_written" = some (some (.ref f_is_written)))
    (E_is_written : ∃ d, Fun K "is_written" "is_written" st_is_written f_is_written d)
    (a_ratio_in : PySem.W.nsIn K mainGlobals "ratio_in" = some (some (.ref f_ratio_in)))
    (E_ratio_in : ∃ d, Fun K "ratio_in" "ratio_in" st_ratio_in f_ratio_in d)
    (a_more_in : PySem.W.nsIn K mainGlobals "more_in" = some (some (.ref f_more_in)))
    (E_more_in : ∃ d, Fun K "more_in" "more_in" st_more_in f_more_in d)
    (a_form_in_r1 : PySem.W.nsIn K mainGlobals "form_in" = some (some (.ref f_form_in_r1)))
    (E_form_in_r1 : ∃ d, Fun K "form_in" "form_in" st_form_in_r1 f_form_in_r1 d)
    (a_form_in_r2 : PySem.W.nsIn K mainGlobals "form_in" = some (some (.ref f_form_in_r2)))
    (E_form_in_r2 : ∃ d, Fun K "form_in" "form_in" st_form_in_r2 f_form_in_r2 d)
    (a_form_in_r3 : PySem.W.nsIn K mainGlobals "form_in" = some (some (.ref f_form_in_r3)))
    (E_form_in_r3 : ∃ d, Fun K "form_in" "form_in" st_form_in_r3 f_form_in_r3 d)
    (a_nested : PySem.W.nsIn K mainGlobals "nested" = some (some (.ref f_nested)))
    (E_nested : ∃ d, Fun K "nested" "nested" st_nested f_nested d)
    (a_wish_in : PySem.W.nsIn K mainGlobals "wish_in" = some (some (.ref f_wish_in)))
    (E_wish_in : ∃ d, Fun K "wish_in" "wish_in" st_wish_in f_wish_in d)
    (s0_Wish_read : PySem.W.findIn K (.ref C_Wish) "read" = some (some (.ref sp_Wish_read)))
    (s1_Wish_read : PySem.W.recIn K sp_Wish_read "staticmethod" = some (.ref f_Wish_read :: sr_Wish_read))
    (s2_Wish_read : PySem.W.typeIn K (.ref C_Wish) = some mc_Wish_read)
    (s3_Wish_read : PySem.W.readsIn K C_Wish mc_Wish_read = true)
    (s4_Wish_read : PySem.W.findCls K (.ref C_Wish) mc_Wish_read "read" = some (.get (.builtin "staticmethod.__get__") (.ref sp_Wish_read) .none (.ref C_Wish)))
    (s5_Wish_read : PySem.W.specialIn K (.ref C_Wish) "__getattribute__" = some (some (.builtin "type.__getattribute__")))
    (E_Wish_read : ∃ d, Fun K "read" "Wish.read" st_Wish_read f_Wish_read d)
    (a__law_bag : PySem.W.nsIn K mainGlobals "_law_bag" = some (some (.ref f__law_bag)))
    (E__law_bag : ∃ d, Fun K "_law_bag" "_law_bag" st__law_bag f__law_bag d)
    (a_Wish___eq__ : PySem.W.findIn K (.ref C_Wish) "__eq__" = some (some (.ref f_Wish___eq__)))
    (i_Wish___eq__ : PySem.W.isFn K (.ref f_Wish___eq__) = true)
    (E_Wish___eq__ : ∃ d, Fun K "__eq__" "Wish.__eq__" st_Wish___eq__ f_Wish___eq__ d)
    (a__law_draw : PySem.W.nsIn K mainGlobals "_law_draw" = some (some (.ref f__law_draw)))
    (E__law_draw : ∃ d, Fun K "_law_draw" "_law_draw" st__law_draw f__law_draw d)
    (a__law_one : PySem.W.nsIn K mainGlobals "_law_one" = some (some (.ref f__law_one)))
    (E__law_one : ∃ d, Fun K "_law_one" "_law_one" st__law_one f__law_one d)
    (a__law_level : PySem.W.nsIn K mainGlobals "_law_level" = some (some (.ref f__law_level)))
    (E__law_level : ∃ d, Fun K "_law_level" "_law_level" st__law_level f__law_level d)
    (a__law_more : PySem.W.nsIn K mainGlobals "_law_more" = some (some (.ref f__law_more)))
    (E__law_more : ∃ d, Fun K "_law_more" "_law_more" st__law_more f__law_more d)
    (a__law_plea_r0 : PySem.W.nsIn K mainGlobals "_law_plea" = some (some (.ref f__law_plea_r0)))
    (E__law_plea_r0 : ∃ d, Fun K "_law_plea" "_law_plea" st__law_plea_r0 f__law_plea_r0 d)
    (a__law_plea_r1 : PySem.W.nsIn K mainGlobals "_law_plea" = some (some (.ref f__law_plea_r1)))
    (E__law_plea_r1 : ∃ d, Fun K "_law_plea" "_law_plea" st__law_plea_r1 f__law_plea_r1 d)
    (a__law_plea_r2 : PySem.W.nsIn K mainGlobals "_law_plea" = some (some (.ref f__law_plea_r2)))
    (E__law_plea_r2 : ∃ d, Fun K "_law_plea" "_law_plea" st__law_plea_r2 f__law_plea_r2 d)
    (a__law_plea_r3 : PySem.W.nsIn K mainGlobals "_law_plea" = some (some (.ref f__law_plea_r3)))
    (E__law_plea_r3 : ∃ d, Fun K "_law_plea" "_law_plea" st__law_plea_r3 f__law_plea_r3 d)
    (a__law_cords : PySem.W.nsIn K mainGlobals "_law_cords" = some (some (.ref f__law_cords)))
    (E__law_cords : ∃ d, Fun K "_law_cords" "_law_cords" st__law_cords f__law_cords d)
    (a__law_letters : PySem.W.nsIn K mainGlobals "_law_letters" = some (some (.ref f__law_letters)))
    (E__law_letters : ∃ d, Fun K "_law_letters" "_law_letters" st__law_letters f__law_letters d)
    (a__law_words : PySem.W.nsIn K mainGlobals "_law_words" = some (some (.ref f__law_words)))
    (E__law_words : ∃ d, Fun K "_law_words" "_law_words" st__law_words f__law_words d)
    (a__law_shape : PySem.W.nsIn K mainGlobals "_law_shape" = some (some (.ref f__law_shape)))
    (E__law_shape : ∃ d, Fun K "_law_shape" "_law_shape" st__law_shape f__law_shape d)
    (a__law_level_text : PySem.W.nsIn K mainGlobals "_law_level_text" = some (some (.ref f__law_level_text)))
    (E__law_level_text : ∃ d, Fun K "_law_level_text" "_law_level_text" st__law_level_text f__law_level_text d)
    (a__law_written_r0 : PySem.W.nsIn K mainGlobals "_law_written" = some (some (.ref f__law_written_r0)))
    (E__law_written_r0 : ∃ d, Fun K "_law_written" "_law_written" st__law_written_r0 f__law_written_r0 d)
    (a__law_written_r1 : PySem.W.nsIn K mainGlobals "_law_written" = some (some (.ref f__law_written_r1)))
    (E__law_written_r1 : ∃ d, Fun K "_law_written" "_law_written" st__law_written_r1 f__law_written_r1 d)
    (a__law_written_r2 : PySem.W.nsIn K mainGlobals "_law_written" = some (some (.ref f__law_written_r2)))
    (E__law_written_r2 : ∃ d, Fun K "_law_written" "_law_written" st__law_written_r2 f__law_written_r2 d)
    (a__law_written_r3 : PySem.W.nsIn K mainGlobals "_law_written" = some (some (.ref f__law_written_r3)))
    (E__law_written_r3 : ∃ d, Fun K "_law_written" "_law_written" st__law_written_r3 f__law_written_r3 d)
    (a__law_right : PySem.W.nsIn K mainGlobals "_law_right" = some (some (.ref f__law_right)))
    (E__law_right : ∃ d, Fun K "_law_right" "_law_right" st__law_right f__law_right d)
    (a_law : PySem.W.nsIn K mainGlobals "law" = some (some (.ref f_law)))
    (l_law : K.lookup f_law = some ⟨oc_law, od_law, .func (unop% fd law), sl_law⟩)
    (c_law : PySem.W.codeIn K cd_law "law" = true)
    (k_law : PySem.W.keepIn K (.ref f_law) = true)
    (z_abs : PySem.W.nsIn K mainGlobals "abs" = some none)
    (z_all : PySem.W.nsIn K mainGlobals "all" = some none)
    (z_bool : PySem.W.nsIn K mainGlobals "bool" = some none)
    (z_int : PySem.W.nsIn K mainGlobals "int" = some none)
    (z_isinstance : PySem.W.nsIn K mainGlobals "isinstance" = some none)
    (z_len : PySem.W.nsIn K mainGlobals "len" = some none)
    (z_list : PySem.W.nsIn K mainGlobals "list" = some none)
    (z_max : PySem.W.nsIn K mainGlobals "max" = some none)
    (z_min : PySem.W.nsIn K mainGlobals "min" = some none)
    (z_range : PySem.W.nsIn K mainGlobals "range" = some none)
    (z_sorted : PySem.W.nsIn K mainGlobals "sorted" = some none)
    (z_str : PySem.W.nsIn K mainGlobals "str" = some none)
    (z_tuple : PySem.W.nsIn K mainGlobals "tuple" = some none)
    (kc_LONGEST : PySem.W.nsIn K mainGlobals "LONGEST" = some (some (.int 2000 tk_LONGEST)))
    (kc_MOST_DEPTH : PySem.W.nsIn K mainGlobals "MOST_DEPTH" = some (some (.int 4 tk_MOST_DEPTH)))
    (kc_MOST_MOVES : PySem.W.nsIn K mainGlobals "MOST_MOVES" = some (some (.int 6 tk_MOST_MOVES)))
    (kc_MOST_OVERS : PySem.W.nsIn K mainGlobals "MOST_OVERS" = some (some (.int 8 tk_MOST_OVERS)))
    (kc_MOST_WISHES : PySem.W.nsIn K mainGlobals "MOST_WISHES" = some (some (.int 6 tk_MOST_WISHES)))
    (pg_Ratio : PySem.W.plainGet K C_Ratio Str.empty = true)
    (hd_Ratio : PySem.W.hasDictIn K C_Ratio = true)
    (po_Ratio : PySem.W.plainOver K C_Ratio = true)
    (sa_Ratio : PySem.W.findIn K (.ref C_Ratio) "__setattr__" = some (some (.builtin "object.__setattr__")))
    (mk_Ratio : PySem.W.makesIn K C_Ratio = true)
    (kc_Ratio : PySem.W.keepIn K (.ref C_Ratio) = true)
    (sf_Ratio : PySem.W.selfFirst K C_Ratio = true)
    (si_Ratio : PySem.W.subIn K (.type "int") (.ref C_Ratio) = some false)
    (sj_Ratio : PySem.W.subIn K (.ref C_Ratio) (.type "int") = some false)
    (ha_Ratio : PySem.W.findIn K (.ref C_Ratio) "__class__" = some (some (.builtin "object.__class__")))
    (hm_Ratio : PySem.W.mroIn K C_Ratio (.type "object") = some true)
    (kb_Ratio_int : PySem.W.kitOne K (.ref C_Ratio) (.type "int") = some false)
    (kb_Ratio_bool : PySem.W.kitOne K (.ref C_Ratio) (.type "bool") = some false)
    (kb_Ratio_str : PySem.W.kitOne K (.ref C_Ratio) (.type "str") = some false)
    (kb_Ratio_tuple : PySem.W.kitOne K (.ref C_Ratio) (.type "tuple") = some false)
    (kb_Ratio_list : PySem.W.kitOne K (.ref C_Ratio) (.type "list") = some false)
    (kb_Ratio_dict : PySem.W.kitOne K (.ref C_Ratio) (.type "dict") = some false)
    (kt_Ratio_NoneType : PySem.W.kitOne K (.type "NoneType") (.ref C_Ratio) = some false)
    (nf_Ratio_NoneType : PySem.W.notFirst K C_Ratio (.type "NoneType") = true)
    (kt_Ratio_bool : PySem.W.kitOne K (.type "bool") (.ref C_Ratio) = some false)
    (nf_Ratio_bool : PySem.W.notFirst K C_Ratio (.type "bool") = true)
    (kt_Ratio_int : PySem.W.kitOne K (.type "int") (.ref C_Ratio) = some false)
    (nf_Ratio_int : PySem.W.notFirst K C_Ratio (.type "int") = true)
    (kt_Ratio_str : PySem.W.kitOne K (.type "str") (.ref C_Ratio) = some false)
    (nf_Ratio_str : PySem.W.notFirst K C_Ratio (.type "str") = true)
    (kt_Ratio_list : PySem.W.kitOne K (.type "list") (.ref C_Ratio) = some false)
    (nf_Ratio_list : PySem.W.notFirst K C_Ratio (.type "list") = true)
    (kt_Ratio_tuple : PySem.W.kitOne K (.type "tuple") (.ref C_Ratio) = some false)
    (nf_Ratio_tuple : PySem.W.notFirst K C_Ratio (.type "tuple") = true)
    (kt_Ratio_dict : PySem.W.kitOne K (.type "dict") (.ref C_Ratio) = some false)
    (nf_Ratio_dict : PySem.W.notFirst K C_Ratio (.type "dict") = true)
    (nn_Ratio_Ratio : PySem.W.notFirst K C_Ratio (.ref C_Ratio) = true)
    (cc_Ratio_Wish : PySem.W.kitOne K (.ref C_Ratio) (.ref C_Wish) = some false)
    (nn_Ratio_Wish : PySem.W.notFirst K C_Ratio (.ref C_Wish) = true)
    (pg_Wish : PySem.W.plainGet K C_Wish Str.empty = true)
    (hd_Wish : PySem.W.hasDictIn K C_Wish = true)
    (po_Wish : PySem.W.plainOver K C_Wish = true)
    (sa_Wish : PySem.W.findIn K (.ref C_Wish) "__setattr__" = some (some (.builtin "object.__setattr__")))
    (mk_Wish : PySem.W.makesIn K C_Wish = true)
    (kc_Wish : PySem.W.keepIn K (.ref C_Wish) = true)
    (sf_Wish : PySem.W.selfFirst K C_Wish = true)
    (si_Wish : PySem.W.subIn K (.type "int") (.ref C_Wish) = some false)
    (sj_Wish : PySem.W.subIn K (.ref C_Wish) (.type "int") = some false)
    (ha_Wish : PySem.W.findIn K (.ref C_Wish) "__class__" = some (some (.builtin "object.__class__")))
    (hm_Wish : PySem.W.mroIn K C_Wish (.type "object") = some true)
    (kb_Wish_int : PySem.W.kitOne K (.ref C_Wish) (.type "int") = some false)
    (kb_Wish_bool : PySem.W.kitOne K (.ref C_Wish) (.type "bool") = some false)
    (kb_Wish_str : PySem.W.kitOne K (.ref C_Wish) (.type "str") = some false)
    (kb_Wish_tuple : PySem.W.kitOne K (.ref C_Wish) (.type "tuple") = some false)
    (kb_Wish_list : PySem.W.kitOne K (.ref C_Wish) (.type "list") = some false)
    (kb_Wish_dict : PySem.W.kitOne K (.ref C_Wish) (.type "dict") = some false)
    (kt_Wish_NoneType : PySem.W.kitOne K (.type "NoneType") (.ref C_Wish) = some false)
    (nf_Wish_NoneType : PySem.W.notFirst K C_Wish (.type "NoneType") = true)
    (kt_Wish_bool : PySem.W.kitOne K (.type "bool") (.ref C_Wish) = some false)
    (nf_Wish_bool : PySem.W.notFirst K C_Wish (.type "bool") = true)
    (kt_Wish_int : PySem.W.kitOne K (.type "int") (.ref C_Wish) = some false)
    (nf_Wish_int : PySem.W.notFirst K C_Wish (.type "int") = true)
    (kt_Wish_str : PySem.W.kitOne K (.type "str") (.ref C_Wish) = some false)
    (nf_Wish_str : PySem.W.notFirst K C_Wish (.type "str") = true)
    (kt_Wish_list : PySem.W.kitOne K (.type "list") (.ref C_Wish) = some false)
    (nf_Wish_list : PySem.W.notFirst K C_Wish (.type "list") = true)
    (kt_Wish_tuple : PySem.W.kitOne K (.type "tuple") (.ref C_Wish) = some false)
    (nf_Wish_tuple : PySem.W.notFirst K C_Wish (.type "tuple") = true)
    (kt_Wish_dict : PySem.W.kitOne K (.type "dict") (.ref C_Wish) = some false)
    (nf_Wish_dict : PySem.W.notFirst K C_Wish (.type "dict") = true)
    (cc_Wish_Ratio : PySem.W.kitOne K (.ref C_Wish) (.ref C_Ratio) = some false)
    (nn_Wish_Ratio : PySem.W.notFirst K C_Wish (.ref C_Ratio) = true)
    (nn_Wish_Wish : PySem.W.notFirst K C_Wish (.ref C_Wish) = true)
    (hn : PySem.W.specialIn K (.builtin "object.__class__") "__get__" = some (some (.builtin "getset_descriptor.__get__")))
    (ht : PySem.W.takesIn K (.builtin "object.__class__") = some true)
    (na_Ratio_bottom : PySem.W.findIn K (.ref C_Ratio) "bottom" = some none)
    (na_Ratio_top : PySem.W.findIn K (.ref C_Ratio) "top" = some none)
    (na_Wish_form : PySem.W.findIn K (.ref C_Wish) "form" = some none)
    (ne_Wish : PySem.W.findIn K (.ref C_Wish) "__ne__" = some (some (.builtin "object.__ne__")))
    (ob_Wish : PySem.W.subIn K (.ref C_Wish) (.type "object") = some true) :
    SL.LawAtT l w K (L2.CX l.prog w) 22 63 "_law_cells" mg fa h := by
  letI : Tb := { T := [] }
  have e := hfa.symm.trans (PySem.W.mg_of X G a_law)
  cases e
  obtain ⟨d_are_great, F_are_great⟩ := E_are_great
  have b_are_great := F_are_great.binds (ps := ["value", "least", "most"]) fun _ _ _ _ _ _ us hl => match us, hl with | [_, _, _], _ => rfl
  obtain ⟨d_are_small, F_are_small⟩ := E_are_small
  have b_are_small := F_are_small.binds (ps := ["value", "least", "most"]) fun _ _ _ _ _ _ us hl => match us, hl with | [_, _, _], _ => rfl
  obtain ⟨d_is_integer, F_is_integer⟩ := E_is_integer
  have b_is_integer := F_is_integer.binds (ps := ["value"]) fun _ _ _ _ _ _ us hl => match us, hl with | [_], _ => rfl
  have F_is_number : FunD K "is_number" "is_number" (defArgs st_is_number) (defBody st_is_number) (defScope st_is_number) [.non] [] f_is_number (unop% fd is_number) := ⟨⟨oc_is_number, od_is_number, _, kV_is_number, dc_is_number, pm_is_number, an_is_number, cd_is_number, ct_is_number, sl_is_number, rfl, l_is_number, c_is_number, .inr ⟨by simp, dt_is_number, _, tv_is_number.toList, tn_is_number, rfl, t_is_number, rfl, u_is_number⟩, .inl rfl⟩, k_is_number⟩
  have b_is_number : Binds K (unop% fd is_number) ["value", "most"] [] := FunD_all F_is_number (by simp) fun T kV doc pm an cdv ct us its l1 l2 => match us, its, l1, l2 with | [_, _], [_], _, _ => ⟨_, rfl, rfl⟩
  obtain ⟨d_is_moment, F_is_moment⟩ := E_is_moment
  have b_is_moment := F_is_moment.binds (ps := ["value", "last"]) fun _ _ _ _ _ _ us hl => match us, hl with | [_, _], _ => rfl
  obtain ⟨d_is_level, F_is_level⟩ := E_is_level
  have b_is_level := F_is_level.binds (ps := ["value"]) fun _ _ _ _ _ _ us hl => match us, hl with | [_], _ => rfl
  obtain ⟨d_shared_factor, F_shared_factor⟩ := E_shared_factor
  have b_shared_factor := F_shared_factor.binds (ps := ["one", "two"]) fun _ _ _ _ _ _ us hl => match us, hl with | [_, _], _ => rfl
  obtain ⟨d_is_more, F_is_more⟩ := E_is_more
  have b_is_more := F_is_more.binds (ps := ["value"]) fun _ _ _ _ _ _ us hl => match us, hl with | [_], _ => rfl
  obtain ⟨d_is_headed, F_is_headed⟩ := E_is_headed
  have b_is_headed := F_is_headed.binds (ps := ["value"]) fun _ _ _ _ _ _ us hl => match us, hl with | [_], _ => rfl
  obtain ⟨d_overs_in, F_overs_in⟩ := E_overs_in
  have b_overs_in := F_overs_in.binds (ps := ["form"]) fun _ _ _ _ _ _ us hl => match us, hl with | [_], _ => rfl
  obtain ⟨d_Wish___init__, F_Wish___init__⟩ := E_Wish___init__
  have b_Wish___init__ := F_Wish___init__.binds (ps := ["self", "form"]) fun _ _ _ _ _ _ us hl => match us, hl with | [_, _], _ => rfl
  obtain ⟨d_Ratio___str__, F_Ratio___str__⟩ := E_Ratio___str__
  have b_Ratio___str__ := F_Ratio___str__.binds (ps := ["self"]) fun _ _ _ _ _ _ us hl => match us, hl with | [_], _ => rfl
  have F_Ratio___init__ : FunD K "__init__" "Ratio.__init__" (defArgs st_Ratio___init__) (defBody st_Ratio___init__) (defScope st_Ratio___init__) [.int 1] [] f_Ratio___init__ (unop% fd Ratio___init__) := ⟨⟨oc_Ratio___init__, od_Ratio___init__, _, kV_Ratio___init__, dc_Ratio___init__, pm_Ratio___init__, an_Ratio___init__, cd_Ratio___init__, ct_Ratio___init__, sl_Ratio___init__, rfl, l_Ratio___init__, c_Ratio___init__, .inr ⟨by simp, dt_Ratio___init__, _, tv_Ratio___init__.toList, tn_Ratio___init__, rfl, t_Ratio___init__, rfl, u_Ratio___init__⟩, .inl rfl⟩, k_Ratio___init__⟩
  have b_Ratio___init__ : Binds K (unop% fd Ratio___init__) ["self", "top", "bottom"] [] := FunD_all F_Ratio___init__ (by simp) fun T kV doc pm an cdv ct us its l1 l2 => match us, its, l1, l2 with | [_, _, _], [_], _, _ => ⟨_, rfl, rfl⟩
  obtain ⟨d_more_of, F_more_of⟩ := E_more_of
  have b_more_of := F_more_of.binds (ps := ["value"]) fun _ _ _ _ _ _ us hl => match us, hl with | [_], _ => rfl
  obtain ⟨d_text_of_level, F_text_of_level⟩ := E_text_of_level
  have b_text_of_level := F_text_of_level.binds (ps := ["level"]) fun _ _ _ _ _ _ us hl => match us, hl with | [_], _ => rfl
  obtain ⟨d_text_of_r0, F_text_of_r0⟩ := E_text_of_r0
  have b_text_of_r0 := F_text_of_r0.binds (ps := ["form"]) fun _ _ _ _ _ _ us hl => match us, hl with | [_], _ => rfl
  obtain ⟨d_text_of_r1, F_text_of_r1⟩ := E_text_of_r1
  have b_text_of_r1 := F_text_of_r1.binds (ps := ["form"]) fun _ _ _ _ _ _ us hl => match us, hl with | [_], _ => rfl
  obtain ⟨d_text_of_r2, F_text_of_r2⟩ := E_text_of_r2
  have b_text_of_r2 := F_text_of_r2.binds (ps := ["form"]) fun _ _ _ _ _ _ us hl => match us, hl with | [_], _ => rfl
  obtain ⟨d_text_of_r3, F_text_of_r3⟩ := E_text_of_r3
  have b_text_of_r3 := F_text_of_r3.binds (ps := ["form"]) fun _ _ _ _ _ _ us hl => match us, hl with | [_], _ => rfl
  obtain ⟨d_Wish___str__, F_Wish___str__⟩ := E_Wish___str__
  have b_Wish___str__ := F_Wish___str__.binds (ps := ["self"]) fun _ _ _ _ _ _ us hl => match us, hl with | [_], _ => rfl
  obtain ⟨d_form_in_r0, F_form_in_r0⟩ := E_form_in_r0
  have b_form_in_r0 := F_form_in_r0.binds (ps := ["value", "room"]) fun _ _ _ _ _ _ us hl => match us, hl with | [_, _], _ => rfl
  obtain ⟨d_level_in, F_level_in⟩ := E_level_in
  have b_level_in := F_level_in.binds (ps := ["text"]) fun _ _ _ _ _ _ us hl => match us, hl with | [_], _ => rfl
  obtain ⟨d_is_written, F_is_written⟩ := E_is_written
  have b_is_written := F_is_written.binds (ps := ["text"]) fun _ _ _ _ _ _ us hl => match us, hl with | [_], _ => rfl
  obtain ⟨d_ratio_in, F_ratio_in⟩ := E_ratio_in
  have b_ratio_in := F_ratio_in.binds (ps := ["text"]) fun _ _ _ _ _ _ us hl => match us, hl with | [_], _ => rfl
  obtain ⟨d_more_in, F_more_in⟩ := E_more_in
  have b_more_in := F_more_in.binds (ps := ["word"]) fun _ _ _ _ _ _ us hl => match us, hl with | [_], _ => rfl
  obtain ⟨d_form_in_r1, F_form_in_r1⟩ := E_form_in_r1
  have b_form_in_r1 := F_form_in_r1.binds (ps := ["value", "room"]) fun _ _ _ _ _ _ us hl => match us, hl with | [_, _], _ => rfl
  obtain ⟨d_form_in_r2, F_form_in_r2⟩ := E_form_in_r2
  have b_form_in_r2 := F_form_in_r2.binds (ps := ["value", "room"]) fun _ _ _ _ _ _ us hl => match us, hl with | [_, _], _ => rfl
  obtain ⟨d_form_in_r3, F_form_in_r3⟩ := E_form_in_r3
  have b_form_in_r3 := F_form_in_r3.binds (ps := ["value", "room"]) fun _ _ _ _ _ _ us hl => match us, hl with | [_, _], _ => rfl
  obtain ⟨d_nested, F_nested⟩ := E_nested
  have b_nested := F_nested.binds (ps := ["text"]) fun _ _ _ _ _ _ us hl => match us, hl with | [_], _ => rfl
  obtain ⟨d_wish_in, F_wish_in⟩ := E_wish_in
  have b_wish_in := F_wish_in.binds (ps := ["text"]) fun _ _ _ _ _ _ us hl => match us, hl with | [_], _ => rfl
  obtain ⟨d_Wish_read, F_Wish_read⟩ := E_Wish_read
  have b_Wish_read := F_Wish_read.binds (ps := ["text"]) fun _ _ _ _ _ _ us hl => match us, hl with | [_], _ => rfl
  obtain ⟨d__law_bag, F__law_bag⟩ := E__law_bag
  have b__law_bag := F__law_bag.binds (ps := ["_law_cells", "_law_k"]) fun _ _ _ _ _ _ us hl => match us, hl with | [_, _], _ => rfl
  obtain ⟨d_Wish___eq__, F_Wish___eq__⟩ := E_Wish___eq__
  have b_Wish___eq__ := F_Wish___eq__.binds (ps := ["self", "other"]) fun _ _ _ _ _ _ us hl => match us, hl with | [_, _], _ => rfl
  obtain ⟨d__law_draw, F__law_draw⟩ := E__law_draw
  have b__law_draw := F__law_draw.binds (ps := ["_law_bag_here", "_law_wide"]) fun _ _ _ _ _ _ us hl => match us, hl with | [_, _], _ => rfl
  obtain ⟨d__law_one, F__law_one⟩ := E__law_one
  have b__law_one := F__law_one.binds (ps := ["_law_bag_here", "_law_some"]) fun _ _ _ _ _ _ us hl => match us, hl with | [_, _], _ => rfl
  obtain ⟨d__law_level, F__law_level⟩ := E__law_level
  have b__law_level := F__law_level.binds (ps := ["_law_bag_here", "_law_shape_here", "_law_far_when"]) fun _ _ _ _ _ _ us hl => match us, hl with | [_, _, _], _ => rfl
  obtain ⟨d__law_more, F__law_more⟩ := E__law_more
  have b__law_more := F__law_more.binds (ps := ["_law_bag_here"]) fun _ _ _ _ _ _ us hl => match us, hl with | [_], _ => rfl
  obtain ⟨d__law_plea_r0, F__law_plea_r0⟩ := E__law_plea_r0
  have b__law_plea_r0 := F__law_plea_r0.binds (ps := ["_law_bag_here", "_law_shape_here", "_law_far_when", "_law_room"]) fun _ _ _ _ _ _ us hl => match us, hl with | [_, _, _, _], _ => rfl
  obtain ⟨d__law_plea_r1, F__law_plea_r1⟩ := E__law_plea_r1
  have b__law_plea_r1 := F__law_plea_r1.binds (ps := ["_law_bag_here", "_law_shape_here", "_law_far_when", "_law_room"]) fun _ _ _ _ _ _ us hl => match us, hl with | [_, _, _, _], _ => rfl
  obtain ⟨d__law_plea_r2, F__law_plea_r2⟩ := E__law_plea_r2
  have b__law_plea_r2 := F__law_plea_r2.binds (ps := ["_law_bag_here", "_law_shape_here", "_law_far_when", "_law_room"]) fun _ _ _ _ _ _ us hl => match us, hl with | [_, _, _, _], _ => rfl
  obtain ⟨d__law_plea_r3, F__law_plea_r3⟩ := E__law_plea_r3
  have b__law_plea_r3 := F__law_plea_r3.binds (ps := ["_law_bag_here", "_law_shape_here", "_law_far_when", "_law_room"]) fun _ _ _ _ _ _ us hl => match us, hl with | [_, _, _, _], _ => rfl
  obtain ⟨d__law_cords, F__law_cords⟩ := E__law_cords
  have b__law_cords := F__law_cords.binds (ps := ["_law_bag_here", "_law_limbs"]) fun _ _ _ _ _ _ us hl => match us, hl with | [_, _], _ => rfl
  obtain ⟨d__law_letters, F__law_letters⟩ := E__law_letters
  have b__law_letters := F__law_letters.binds (ps := ["_law_bag_here", "_law_pool", "_law_many"]) fun _ _ _ _ _ _ us hl => match us, hl with | [_, _, _], _ => rfl
  obtain ⟨d__law_words, F__law_words⟩ := E__law_words
  have b__law_words := F__law_words.binds (ps := ["_law_bag_here", "_law_many"]) fun _ _ _ _ _ _ us hl => match us, hl with | [_, _], _ => rfl
  obtain ⟨d__law_shape, F__law_shape⟩ := E__law_shape
  have b__law_shape := F__law_shape.binds (ps := ["_law_bag_here"]) fun _ _ _ _ _ _ us hl => match us, hl with | [_], _ => rfl
  obtain ⟨d__law_level_text, F__law_level_text⟩ := E__law_level_text
  have b__law_level_text := F__law_level_text.binds (ps := ["_law_level_here"]) fun _ _ _ _ _ _ us hl => match us, hl with | [_], _ => rfl
  obtain ⟨d__law_written_r0, F__law_written_r0⟩ := E__law_written_r0
  have b__law_written_r0 := F__law_written_r0.binds (ps := ["_law_plea_here"]) fun _ _ _ _ _ _ us hl => match us, hl with | [_], _ => rfl
  obtain ⟨d__law_written_r1, F__law_written_r1⟩ := E__law_written_r1
  have b__law_written_r1 := F__law_written_r1.binds (ps := ["_law_plea_here"]) fun _ _ _ _ _ _ us hl => match us, hl with | [_], _ => rfl
  obtain ⟨d__law_written_r2, F__law_written_r2⟩ := E__law_written_r2
  have b__law_written_r2 := F__law_written_r2.binds (ps := ["_law_plea_here"]) fun _ _ _ _ _ _ us hl => match us, hl with | [_], _ => rfl
  obtain ⟨d__law_written_r3, F__law_written_r3⟩ := E__law_written_r3
  have b__law_written_r3 := F__law_written_r3.binds (ps := ["_law_plea_here"]) fun _ _ _ _ _ _ us hl => match us, hl with | [_], _ => rfl
  obtain ⟨d__law_right, F__law_right⟩ := E__law_right
  have b__law_right := F__law_right.binds (ps := ["_law_bag_here"]) fun _ _ _ _ _ _ us hl => match us, hl with | [_], _ => rfl
  have F_law := fun_mk (st := st_law) l_law c_law k_law
  have b_law := F_law.binds (ps := ["_law_cells"]) fun _ _ _ _ _ _ us hl => match us, hl with | [_], _ => rfl
  have kb_Wish___init___0_form : ∃ g, KBn K d_Wish___init__ ["self", "form"] 1 ["form"] g (prm [0]) := Fun_kb (ps := ["self", "form"]) F_Wish___init__ 1 ["form"] (fun us ws => prm [0] us ws) (fun r1 r3 => vals_prm _ r1 r3) fun kV doc pm an cdv ct us ws l1 l2 => match us, ws, l1, l2 with | [_], [_], _, _ => rfl
  have kb_Wish_read_0_text : ∃ g, KBn K d_Wish_read ["text"] 0 ["text"] g (prm [0]) := Fun_kb (ps := ["text"]) F_Wish_read 0 ["text"] (fun us ws => prm [0] us ws) (fun r1 r3 => vals_prm _ r1 r3) fun kV doc pm an cdv ct us ws l1 l2 => match us, ws, l1, l2 with | [], [_], _, _ => rfl
  have bd_Ratio___init___1 : ∃ ds, Vals [.int 1] ds ∧ Binds K (unop% fd Ratio___init__) ["self", "top", "bottom"] ds := FunD.binds1 (ps := ["self", "top", "bottom"]) F_Ratio___init__ 2 0 (by simp) (by rfl) fun T kV doc pm an cdv ct us its l1 l2 => match us, its, l1, l2 with | [_, _], [_], _, _ => ⟨_, rfl, rfl⟩
  let A : CT := { ad := fun c => [C_Ratio, C_Ratio, C_Ratio, C_Ratio, C_Ratio, C_Wish].getD c C_Ratio, nms := nmsOf, cs := [0, 5], xs := [] }
  let x : Fx := { f_are_great := f_are_great, d_are_great := d_are_great, f_are_small := f_are_small, d_are_small := d_are_small, f_is_integer := f_is_integer, d_is_integer := d_is_integer, f_is_number := f_is_number, d_is_number := (unop% fd is_number), f_is_moment := f_is_moment, d_is_moment := d_is_moment, f_is_level := f_is_level, d_is_level := d_is_level, f_shared_factor := f_shared_factor, d_shared_factor := d_shared_factor, f_is_more := f_is_more, d_is_more := d_is_more, f_is_headed := f_is_headed, d_is_headed := d_is_headed, f_overs_in := f_overs_in, d_overs_in := d_overs_in, f_Wish___init__ := f_Wish___init__, d_Wish___init__ := d_Wish___init__, f_Ratio___str__ := f_Ratio___str__, d_Ratio___str__ := d_Ratio___str__, f_Ratio___init__ := f_Ratio___init__, d_Ratio___init__ := (unop% fd Ratio___init__), f_more_of := f_more_of, d_more_of := d_more_of, f_text_of_level := f_text_of_level, d_text_of_level := d_text_of_level, f_text_of_r0 := f_text_of_r0, d_text_of_r0 := d_text_of_r0, f_text_of_r1 := f_text_of_r1, d_text_of_r1 := d_text_of_r1, f_text_of_r2 := f_text_of_r2, d_text_of_r2 := d_text_of_r2, f_text_of_r3 := f_text_of_r3, d_text_of_r3 := d_text_of_r3, f_Wish___str__ := f_Wish___str__, d_Wish___str__ := d_Wish___str__, f_form_in_r0 := f_form_in_r0, d_form_in_r0 := d_form_in_r0, f_level_in := f_level_in, d_level_in := d_level_in, f_is_written := f_is_written, d_is_written := d_is_written, f_ratio_in := f_ratio_in, d_ratio_in := d_ratio_in, f_more_in := f_more_in, d_more_in := d_more_in, f_form_in_r1 := f_form_in_r1, d_form_in_r1 := d_form_in_r1, f_form_in_r2 := f_form_in_r2, d_form_in_r2 := d_form_in_r2, f_form_in_r3 := f_form_in_r3, d_form_in_r3 := d_form_in_r3, f_nested := f_nested, d_nested := d_nested, f_wish_in := f_wish_in, d_wish_in := d_wish_in, f_Wish_read := f_Wish_read, d_Wish_read := d_Wish_read, f__law_bag := f__law_bag, d__law_bag := d__law_bag, f_Wish___eq__ := f_Wish___eq__, d_Wish___eq__ := d_Wish___eq__, f__law_draw := f__law_draw, d__law_draw := d__law_draw, f__law_one := f__law_one, d__law_one := d__law_one, f__law_level := f__law_level, d__law_level := d__law_level, f__law_more := f__law_more, d__law_more := d__law_more, f__law_plea_r0 := f__law_plea_r0, d__law_plea_r0 := d__law_plea_r0, f__law_plea_r1 := f__law_plea_r1, d__law_plea_r1 := d__law_plea_r1, f__law_plea_r2 := f__law_plea_r2, d__law_plea_r2 := d__law_plea_r2, f__law_plea_r3 := f__law_plea_r3, d__law_plea_r3 := d__law_plea_r3, f__law_cords := f__law_cords, d__law_cords := d__law_cords, f__law_letters := f__law_letters, d__law_letters := d__law_letters, f__law_words := f__law_words, d__law_words := d__law_words, f__law_shape := f__law_shape, d__law_shape := d__law_shape, f__law_level_text := f__law_level_text, d__law_level_text := d__law_level_text, f__law_written_r0 := f__law_written_r0, d__law_written_r0 := d__law_written_r0, f__law_written_r1 := f__law_written_r1, d__law_written_r1 := d__law_written_r1, f__law_written_r2 := f__law_written_r2, d__law_written_r2 := d__law_written_r2, f__law_written_r3 := f__law_written_r3, d__law_written_r3 := d__law_written_r3, f__law_right := f__law_right, d__law_right := d__law_right, f_law := fa, d_law := (unop% fd law) }
  have cf_Ratio : CF K C_Ratio := ⟨⟨pg_Ratio, hd_Ratio, po_Ratio, sa_Ratio⟩, ha_Ratio, hn, ht, hm_Ratio,
    fun T hT => by simp only [List.mem_cons, List.not_mem_nil, or_false] at hT; rcases hT with rfl | rfl | rfl | rfl | rfl | rfl <;> assumption,
    fun T hT => by simp only [List.mem_cons, List.not_mem_nil, or_false] at hT; rcases hT with rfl | rfl | rfl | rfl | rfl | rfl | rfl <;> assumption,
    fun T hT => by simp only [List.mem_cons, List.not_mem_nil, or_false] at hT; rcases hT with rfl | rfl | rfl | rfl | rfl | rfl | rfl <;> assumption⟩
  have cf_Wish : CF K C_Wish := ⟨⟨pg_Wish, hd_Wish, po_Wish, sa_Wish⟩, ha_Wish, hn, ht, hm_Wish,
    fun T hT => by simp only [List.mem_cons, List.not_mem_nil, or_false] at hT; rcases hT with rfl | rfl | rfl | rfl | rfl | rfl <;> assumption,
    fun T hT => by simp only [List.mem_cons, List.not_mem_nil, or_false] at hT; rcases hT with rfl | rfl | rfl | rfl | rfl | rfl | rfl <;> assumption,
    fun T hT => by simp only [List.mem_cons, List.not_mem_nil, or_false] at hT; rcases hT with rfl | rfl | rfl | rfl | rfl | rfl | rfl <;> assumption⟩
  have kd : KD K A := by
    refine ⟨fun c hc => ?_, fun c hc c' hc' => ?_, fun c hc c' hc' => ?_⟩
    · simp only [A, List.mem_cons, List.not_mem_nil, or_false] at hc; rcases hc with rfl | rfl
      · exact cf_Ratio
      · exact cf_Wish
    · simp only [A, List.mem_cons, List.not_mem_nil, or_false] at hc hc'; rcases hc with rfl | rfl <;> rcases hc' with rfl | rfl
      · show PySem.W.kitOne K (.ref C_Ratio) (.ref C_Ratio) = some true; unfold PySem.W.kitOne; simp
      · exact cc_Ratio_Wish
      · exact cc_Wish_Ratio
      · show PySem.W.kitOne K (.ref C_Wish) (.ref C_Wish) = some true; unfold PySem.W.kitOne; simp
    · simp only [A, List.mem_cons, List.not_mem_nil, or_false] at hc hc'; rcases hc with rfl | rfl <;> rcases hc' with rfl | rfl
      · exact nn_Ratio_Ratio
      · exact nn_Ratio_Wish
      · exact nn_Wish_Ratio
      · exact nn_Wish_Wish
  refine ⟨(unop% fd law), [], sp_law K, (by simp), (by simp), (by simp), fun s v => .of_eq rfl, fun H a ns hl hH hS => ⟨a, ns, rfl, hS, hl, SL.tabs_nil (by intro p hp; cases hp), fun _ => rfl⟩, fun base _ _ tbs => ?_⟩
  have T : Txt K mg base A x := { b0 := fun _ => rfl, kd := kd, in_Ratio := by simp [A], nl_Ratio := (by decide : (nmsOf 0).length ≤ 900), in_Wish := by simp [A], nl_Wish := (by decide : (nmsOf 5).length ≤ 900), F_are_great := F_are_great, b_are_great := b_are_great, F_are_small := F_are_small, b_are_small := b_are_small, F_is_integer := F_is_integer, b_is_integer := b_is_integer, F_is_number := F_is_number, b_is_number := b_is_number, F_is_moment := F_is_moment, b_is_moment := b_is_moment, F_is_level := F_is_level, b_is_level := b_is_level, F_shared_factor := F_shared_factor, b_shared_factor := b_shared_factor, F_is_more := F_is_more, b_is_more := b_is_more, F_is_headed := F_is_headed, b_is_headed := b_is_headed, F_overs_in := F_overs_in, b_overs_in := b_overs_in, F_Wish___init__ := F_Wish___init__, b_Wish___init__ := b_Wish___init__, F_Ratio___str__ := F_Ratio___str__, b_Ratio___str__ := b_Ratio___str__, F_Ratio___init__ := F_Ratio___init__, b_Ratio___init__ := b_Ratio___init__, F_more_of := F_more_of, b_more_of := b_more_of, F_text_of_level := F_text_of_level, b_text_of_level := b_text_of_level, F_text_of_r0 := F_text_of_r0, b_text_of_r0 := b_text_of_r0, F_text_of_r1 := F_text_of_r1, b_text_of_r1 := b_text_of_r1, F_text_of_r2 := F_text_of_r2, b_text_of_r2 := b_text_of_r2, F_text_of_r3 := F_text_of_r3, b_text_of_r3 := b_text_of_r3, F_Wish___str__ := F_Wish___str__, b_Wish___str__ := b_Wish___str__, F_form_in_r0 := F_form_in_r0, b_form_in_r0 := b_form_in_r0, F_level_in := F_level_in, b_level_in := b_level_in, F_is_written := F_is_written, b_is_written := b_is_written, F_ratio_in := F_ratio_in, b_ratio_in := b_ratio_in, F_more_in := F_more_in, b_more_in := b_more_in, F_form_in_r1 := F_form_in_r1, b_form_in_r1 := b_form_in_r1, F_form_in_r2 := F_form_in_r2, b_form_in_r2 := b_form_in_r2, F_form_in_r3 := F_form_in_r3, b_form_in_r3 := b_form_in_r3, F_nested := F_nested, b_nested := b_nested, F_wish_in := F_wish_in, b_wish_in := b_wish_in, F_Wish_read := F_Wish_read, b_Wish_read := b_Wish_read, F__law_bag := F__law_bag, b__law_bag := b__law_bag, F_Wish___eq__ := F_Wish___eq__, b_Wish___eq__ := b_Wish___eq__, F__law_draw := F__law_draw, b__law_draw := b__law_draw, F__law_one := F__law_one, b__law_one := b__law_one, F__law_level := F__law_level, b__law_level := b__law_level, F__law_more := F__law_more, b__law_more := b__law_more, F__law_plea_r0 := F__law_plea_r0, b__law_plea_r0 := b__law_plea_r0, F__law_plea_r1 := F__law_plea_r1, b__law_plea_r1 := b__law_plea_r1, F__law_plea_r2 := F__law_plea_r2, b__law_plea_r2 := b__law_plea_r2, F__law_plea_r3 := F__law_plea_r3, b__law_plea_r3 := b__law_plea_r3, F__law_cords := F__law_cords, b__law_cords := b__law_cords, F__law_letters := F__law_letters, b__law_letters := b__law_letters, F__law_words := F__law_words, b__law_words := b__law_words, F__law_shape := F__law_shape, b__law_shape := b__law_shape, F__law_level_text := F__law_level_text, b__law_level_text := b__law_level_text, F__law_written_r0 := F__law_written_r0, b__law_written_r0 := b__law_written_r0, F__law_written_r1 := F__law_written_r1, b__law_written_r1 := b__law_written_r1, F__law_written_r2 := F__law_written_r2, b__law_written_r2 := b__law_written_r2, F__law_written_r3 := F__law_written_r3, b__law_written_r3 := b__law_written_r3, F__law_right := F__law_right, b__law_right := b__law_right, F_law := F_law, b_law := b_law, g__law_bag := PySem.W.mg_of X G a__law_bag, g__law_cords := PySem.W.mg_of X G a__law_cords, g__law_draw := PySem.W.mg_of X G a__law_draw, g__law_letters := PySem.W.mg_of X G a__law_letters, g__law_level := PySem.W.mg_of X G a__law_level, g__law_level_text := PySem.W.mg_of X G a__law_level_text, g__law_more := PySem.W.mg_of X G a__law_more, g__law_one := PySem.W.mg_of X G a__law_one, g__law_plea_r0 := PySem.W.mg_of X G a__law_plea_r0, g__law_plea_r1 := PySem.W.mg_of X G a__law_plea_r1, g__law_plea_r2 := PySem.W.mg_of X G a__law_plea_r2, g__law_plea_r3 := PySem.W.mg_of X G a__law_plea_r3, g__law_right := PySem.W.mg_of X G a__law_right, g__law_shape := PySem.W.mg_of X G a__law_shape, g__law_words := PySem.W.mg_of X G a__law_words, g__law_written_r0 := PySem.W.mg_of X G a__law_written_r0, g__law_written_r1 := PySem.W.mg_of X G a__law_written_r1, g__law_written_r2 := PySem.W.mg_of X G a__law_written_r2, g__law_written_r3 := PySem.W.mg_of X G a__law_written_r3, g_are_great := PySem.W.mg_of X G a_are_great, g_are_small := PySem.W.mg_of X G a_are_small, g_form_in_r0 := PySem.W.mg_of X G a_form_in_r0, g_form_in_r1 := PySem.W.mg_of X G a_form_in_r1, g_form_in_r2 := PySem.W.mg_of X G a_form_in_r2, g_form_in_r3 := PySem.W.mg_of X G a_form_in_r3, g_is_headed := PySem.W.mg_of X G a_is_headed, g_is_integer := PySem.W.mg_of X G a_is_integer, g_is_level := PySem.W.mg_of X G a_is_level, g_is_moment := PySem.W.mg_of X G a_is_moment, g_is_more := PySem.W.mg_of X G a_is_more, g_is_number := PySem.W.mg_of X G a_is_number, g_is_written := PySem.W.mg_of X G a_is_written, g_level_in := PySem.W.mg_of X G a_level_in, g_more_in := PySem.W.mg_of X G a_more_in, g_more_of := PySem.W.mg_of X G a_more_of, g_nested := PySem.W.mg_of X G a_nested, g_overs_in := PySem.W.mg_of X G a_overs_in, g_ratio_in := PySem.W.mg_of X G a_ratio_in, g_shared_factor := PySem.W.mg_of X G a_shared_factor, g_text_of_level := PySem.W.mg_of X G a_text_of_level, g_text_of_r0 := PySem.W.mg_of X G a_text_of_r0, g_text_of_r1 := PySem.W.mg_of X G a_text_of_r1, g_text_of_r2 := PySem.W.mg_of X G a_text_of_r2, g_text_of_r3 := PySem.W.mg_of X G a_text_of_r3, g_wish_in := PySem.W.mg_of X G a_wish_in, n_abs := PySem.W.mg_none_of X G z_abs, n_all := PySem.W.mg_none_of X G z_all, n_bool := PySem.W.mg_none_of X G z_bool, n_int := PySem.W.mg_none_of X G z_int, n_isinstance := PySem.W.mg_none_of X G z_isinstance, n_len := PySem.W.mg_none_of X G z_len, n_list := PySem.W.mg_none_of X G z_list, n_max := PySem.W.mg_none_of X G z_max, n_min := PySem.W.mg_none_of X G z_min, n_range := PySem.W.mg_none_of X G z_range, n_sorted := PySem.W.mg_none_of X G z_sorted, n_str := PySem.W.mg_none_of X G z_str, n_tuple := PySem.W.mg_none_of X G z_tuple, k_LONGEST := ⟨_, PySem.W.mg_of X G kc_LONGEST⟩, k_MOST_DEPTH := ⟨_, PySem.W.mg_of X G kc_MOST_DEPTH⟩, k_MOST_MOVES := ⟨_, PySem.W.mg_of X G kc_MOST_MOVES⟩, k_MOST_OVERS := ⟨_, PySem.W.mg_of X G kc_MOST_OVERS⟩, k_MOST_WISHES := ⟨_, PySem.W.mg_of X G kc_MOST_WISHES⟩, g_Ratio := PySem.W.mg_of X G aC_Ratio, cl_Ratio := cf_Ratio.cl, sf_Ratio := sf_Ratio, int_Ratio := si_Ratio, sub_Ratio := sj_Ratio, mk_Ratio := ⟨mk_Ratio, a_Ratio___init__, i_Ratio___init__, kc_Ratio⟩, g_Wish := PySem.W.mg_of X G aC_Wish, cl_Wish := cf_Wish.cl, sf_Wish := sf_Wish, int_Wish := si_Wish, sub_Wish := sj_Wish, mk_Wish := ⟨mk_Wish, a_Wish___init__, i_Wish___init__, kc_Wish⟩, fl_Ratio_bottom := ⟨na_Ratio_bottom, rfl, nms_nd 0⟩, fl_Ratio_top := ⟨na_Ratio_top, rfl, nms_nd 0⟩, fl_Wish_form := ⟨na_Wish_form, rfl, nms_nd 5⟩, sm_Wish_read := ⟨s5_Wish_read, ⟨_, _, _, s3_Wish_read, s4_Wish_read, s1_Wish_read⟩, F_Wish_read.kp⟩, o_Wish_eq := ⟨a_Wish___eq__, i_Wish___eq__⟩, ne_Wish := ne_Wish, ob_Wish := ob_Wish, o_Ratio_str := ⟨a_Ratio___str__, i_Ratio___str__⟩, o_Wish_str := ⟨a_Wish___str__, i_Wish___str__⟩, kb_Wish___init___0_form := kb_Wish___init___0_form, kb_Wish_read_0_text := kb_Wish_read_0_text, bd_Ratio___init___1 := bd_Ratio___init___1 }
  exact OL _ _ _ _ _ _ _ T
theorem walk {l : PySem.W.OpenLaw} {q : Program} {loose : List Str} {XP : (Str → Option Value) → Heap → Prop} {YP : World → Heap → Prop} {d : DefRec} {K : Params → PySem.W.Frag} (hn : l.most = some 63) (hdf : d.params.defaults = [])
    (hY : ∀ (w : World) (h : Heap), YP w h → (K w.params).In h)
    (F : ∀ (w : World) (mg : Str → Option Value) (fa : Addr) (h : Heap), (K w.params).In h → h.Ns mainGlobals mg → mg d.name = some (.ref fa) →
      (∀ (x : Str) (c P : Addr), ((PyProof.Rows.recsOf q).any fun e => e.name == x) = true → PySem.W.tabIn (K w.params) x = some (c, P) → PySem.W.CodeHd h c P ∧ h.get? P = some { cls := .none, data := .fields #[] }) → SL.LawAtT l w (K w.params) (L2.CX l.prog w) 22 63 "_law_cells" mg fa h) :
    PySem.W.WalkO q loose XP YP l.row.toRowW d [] (fun f vs => PySem.call f vs) :=
  SL.walk_ofT (n := 63) (k := 22) (x := "_law_cells") (CX := fun w => L2.CX l.prog w) hn (by decide) hdf ⟨⟨rfl, by decide, by decide⟩, rfl⟩ hY F fun _ _ _ _ _ h => by
    obtain ⟨_, _, _, _, _, _, _, _, _, _, _, _, z⟩ := h
    exact z
end DY

set_option Elab.async false
set_option linter.all false
set_option maxRecDepth 100000
set_option maxHeartbeats 4000000
namespace DY
/-! ### what a mirror answers, step by step -/
section
variable {α β : Type} {m : R α} {f : α → R β} {P Q : α → Prop}
end
section
variable {A B : Prop}
end
section
variable {ρ : Env} {P : D → Bool → Env → Prop} {Q : D → Bool → Prop} {a b c t e k z : Ev} {i : Nat} {d : D} {f g : D → D → R Rv} {ms ks pre post : List Ev} {F : Fn} {G : FnR}
local macro_rules | `(tactic| walk_at "w") => `(tactic| (simp only [eBin, eUn, eBor, eBorR, eBor1, eN, eIf, eAnd, eOr, eNot, eChain, eCallR, eCallT, eMeth, eMethK, eNK, eMut, eGet, eGetS, eSlice, sAsgT, sExpr, sRet, sRetV, sIf, sPut, sFld, val, evs, bind, R.bind, pure, isB, if_true, if_false, Bool.false_eq_true, *]))
end
/-! statements -/
section
variable {ρ : Env} {P : Out → Env → Prop} {a b : Sv} {t e v : Ev} {i j : Nat} {d : D} {w : Bool} {g : Tg} {it : Iv}

local macro_rules | `(tactic| walk_at "w") => `(tactic| (simp only [eBin, eUn, eBor, eBorR, eBor1, eN, eIf, eAnd, eOr, eNot, eChain, eCallR, eCallT, eMeth, eMethK, eNK, eMut, eGet, eGetS, eSlice, sAsgT, sExpr, sRet, sRetV, sIf, sPut, sFld, val, evs, bind, R.bind, pure, isB, if_true, if_false, Bool.false_eq_true, *]))
/-- what a name takes -/
def kp (d : D) : Bool → Slot
  | true => .ow d
  | false => .sh d
/-! defs -/
/-! walks -/
/-! comprehensions -/
/-! dicts -/
end
end DY

set_option Elab.async false
set_option linter.all false
set_option maxRecDepth 100000
set_option maxHeartbeats 4000000
namespace SL
open PySem L2 PySem.Spec PyProof.Rows

/-! ### Ratios -/
def RatAt (a : Cl) (H : Hp) (p : Addr) (n d : Int) : Prop := ∃ dx, H p = some (.ins a.C_Ratio dx [("top", .int n), ("bottom", .int d)])
theorem RatAt.up {a : Cl} {H H' : Hp} {p : Addr} {n d : Int} (e : L2.Same H H') (h : RatAt a H p n d) : RatAt a H' p n d := let ⟨dx, h⟩ := h; ⟨dx, e _ _ h⟩
section
variable {K : PySem.W.Frag} {a : Cl} {H : Hp} {Q : VK} {p : Addr} {n d : Int}
end

/-! ### the promises -/
/-! ### readings -/
abbrev nm_is_integer : List Str := ["value"]
abbrev nm_shared_factor : List Str := ["one", "two", "high", "low"]
abbrev nm_Ratio___init__ : List Str := ["self", "top", "bottom", "factor"]
local macro_rules | `(tactic| walk_at "up") => `(tactic| first | assumption | exact upd_same | (apply SL.RatAt.up; assumption; walk_at "up") | (apply SL.Same.at; assumption; walk_at "up"))
local macro_rules | `(tactic| walk_at "s0") => `(tactic| first
  | with_reducible refine SL.go_var (by with_unfolding_all rfl) ?_
  | with_reducible refine SL.go_seq ?_
  | with_reducible refine SL.go_next ?_
  | with_reducible refine SL.go_asg ?_
  | with_reducible refine SL.go_gname ?_
  | with_reducible refine SL.go_ret ?_
  | with_reducible refine SL.go_drop ?_
  | with_reducible refine SL.go_ifs ?_
  | with_reducible refine SL.go_c ?_
  | with_reducible refine SL.go_op ?_
  | with_reducible refine SL.go_un ?_
  | with_reducible refine SL.go_I0 ?_
  | with_reducible refine SL.go_U ?_
  | with_reducible refine SL.go_test ?_
  | with_reducible refine SL.go_tb ?_
  | with_reducible refine SL.go_bl ?_
  | with_reducible refine SL.go_eqI ?_
  | with_reducible refine SL.go_neI ?_
  | with_reducible refine SL.go_eqB ?_
  | with_reducible refine SL.go_neB ?_
  | with_reducible refine SL.go_eqS ?_
  | with_reducible refine SL.go_neS ?_
  | with_reducible refine SL.go_and ?_
  | with_reducible refine SL.go_or ?_
  | with_reducible refine SL.go_not ?_
  | with_reducible refine SL.go_andV ?_
  | with_reducible refine SL.go_orV ?_
  | with_reducible refine SL.go_notV ?_
  | with_reducible refine SL.go_if ?_
  | with_reducible refine SL.go_T ?_
  | with_reducible refine SL.go_F ?_
  | with_reducible refine SL.go_nT ?_
  | with_reducible refine SL.go_nF ?_
  | with_reducible refine SL.go_nil ?_
  | with_reducible refine SL.go_cons ?_
  | with_reducible refine SL.go_call ?_
  | with_reducible refine SL.go_cb ?_
  | with_reducible refine SL.go_par ?_
  | with_reducible refine SL.go_pair ?_
  | with_reducible refine SL.go_tup ?_
  | with_reducible refine SL.go_lst ?_
  | with_reducible refine SL.go_fldC ?_
  | with_reducible refine SL.go_sfld ?_
  | with_reducible refine SL.go_sub ?_
  | with_reducible refine SL.go_sl ?_
  | with_reducible refine SL.go_noPart ?_
  | with_reducible refine SL.go_part ?_
  | with_reducible refine SL.go_partE ?_
  | with_reducible refine SL.go_abs ?_
  | with_reducible refine SL.go_max2 ?_
  | with_reducible refine SL.go_min2 ?_
  | with_reducible refine SL.go_int ?_
  | with_reducible refine SL.go_intB ?_
  | with_reducible refine SL.go_bm ?_
  | with_reducible refine SL.go_meth ?_
  | with_reducible refine SL.go_methN ?_
  | with_reducible refine SL.go_make ?_
  | with_reducible refine SL.go_makeK ?_
  | with_reducible refine SL.go_for ?_
  | with_reducible refine SL.go_iList ?_
  | with_reducible refine SL.go_iTup ?_
  | with_reducible refine SL.go_iRng1 ?_
  | with_reducible refine SL.go_iRng2 ?_
  | with_reducible refine SL.go_lc ?_
  | with_reducible refine SL.go_yes ?_
  | with_reducible refine SL.go_chain ?_
  | with_reducible refine SL.go_j ?_
  | with_reducible refine SL.go_js0 ?_
  | with_reducible refine SL.go_js ?_
  | with_reducible refine SL.go_fmt ?_
  | with_reducible refine SL.go_m1 ?_
  | with_reducible refine SL.go_ltS ?_
  | with_reducible refine SL.go_leS ?_
  | with_reducible refine SL.go_strS ?_
  | with_reducible refine SL.go_iStr ?_
  | with_reducible refine SL.go_iZip ?_
  | with_reducible refine SL.go_iKeys ?_
  | with_reducible refine SL.go_dget ?_
  | with_reducible refine SL.go_dc ?_)
local macro_rules | `(tactic| walk_at "go") => `(tactic| repeat walk_at "s0")
local macro_rules | `(tactic| walk_at "nw") => `(tactic| (refine ⟨SL.szL (by simp), fun p n => ?_⟩; generalize q : upd _ p _ = H'; have e := SL.Same.new' n q; have h := SL.at_new q; clear q))
local macro_rules | `(tactic| walk_at "nw0") => `(tactic| (intro p n; generalize q : upd _ p _ = H'; have e := SL.Same.new' n q; have h := SL.at_new q; clear q))
section
variable {K : PySem.W.Frag} {a : Cl} {vs : List V} {H : Hp} {Q : VK} {E : XK}
abbrev ends (Q : VK) : Ends := { nx := fun _ H' => Q .non H', rt := Q }

/-! ### Ratio(..) -/
end
end SL

set_option Elab.async false
set_option linter.all false
set_option maxRecDepth 100000
set_option maxHeartbeats 4000000
namespace SL
/-! ### reckoning with lowest terms and with any terms gives the same -/
section
variable {n1 d1 n2 d2 : Int}
variable {m : Int}
end
end SL

set_option Elab.async false
set_option linter.all false
set_option maxRecDepth 100000
set_option maxHeartbeats 4000000
namespace DY
/-! ### steps -/
theorem mulOk_s {i j : Int} (hi : i.natAbs < 2 ^ 400000) (hj : j.natAbs < 2 ^ 400000) : mulOk i j = true := by
  have key : ∀ n : Nat, n < 2 ^ 400000 → n.log2 < 400000 := fun n h => by
    by_cases z : n = 0
    · subst z; decide
    · exact (Nat.log2_lt z).mpr h
  unfold mulOk
  rw [decide_eq_true_eq]
  have := key _ hi
  have := key _ hj
  omega
theorem mulOk_b {i j : Int} (h1 : -2 ^ 200 ≤ i) (h2 : i ≤ 2 ^ 200) (h3 : -2 ^ 200 ≤ j) (h4 : j ≤ 2 ^ 200) : mulOk i j = true := by
  have e : (2 : Nat) ^ 201 ≤ 2 ^ 400000 := Nat.pow_le_pow_right (by decide) (by decide)
  exact mulOk_s (Nat.lt_of_lt_of_le (by omega) e) (Nat.lt_of_lt_of_le (by omega) e)
theorem divOk_b {j : Int} (h1 : 0 < j) (h2 : j ≤ 2 ^ 200) : divOk j = true := by
  unfold divOk
  rw [Bool.and_eq_true, decide_eq_true_eq, decide_eq_true_eq]
  refine ⟨by omega, ?_⟩
  have : j.natAbs.log2 < 201 := (Nat.log2_lt (by omega)).mpr (by omega)
  omega
theorem fm_lo (i : Int) {j : Int} (h : 0 < j) : 0 ≤ i.fmod j := Int.fmod_nonneg_of_pos i h
theorem fm_hi (i : Int) {j : Int} (h : 0 < j) : i.fmod j < j := Int.fmod_lt_of_pos i h
theorem at_ok {xs : List D} {i : Int} (h0 : 0 ≤ i) (h1 : i < xs.length) : ∃ d, xs[i.toNat]? = some d ∧ atI xs i = some d := by
  have hl : i.toNat < xs.length := by omega
  refine ⟨xs[i.toNat], List.getElem?_eq_getElem hl, ?_⟩
  unfold atI ixN
  rw [if_pos h0, if_pos h1]
  exact List.getElem?_eq_getElem hl
theorem cut_map {α β : Type} (f : α → β) (xs : List α) (lo hi : Option Int) : cut (xs.map f) lo hi = (cut xs lo hi).map f := by
  unfold cut
  rw [List.length_map, List.map_take, List.map_drop]
end DY

set_option Elab.async false
set_option linter.all false
set_option maxRecDepth 100000
set_option maxHeartbeats 4000000
namespace DY
/-! ### a mirror is run by rewriting: only what stands at the head -/
/-- a mark that keeps the rewriting out of a -/
inductive Tr {α : Type} (a : α) : Type where
  | mk
section
variable {α β γ : Type} {m m' : R α} {f : α → R β} {g : β → R γ} {a : α} {P : α → Prop} {d d' : D} {A B : R α}
def bnd (m : R α) (f : α → R β) (_ : Tr f := .mk) : R β := R.bind m f
def Wn (m : R α) (P : α → Prop) (_ : Tr P := .mk) : Prop := ∃ a, m = .ok a ∧ P a
theorem bnd_ok : bnd (.ok a) f = f a := rfl
theorem bnd_bnd : bnd (bnd m f) g = bnd m (fun x => bnd (f x) g) := by cases m <;> rfl
theorem bnd_fun {f' : α → R β} (h : ∀ x, f x = f' x) : bnd m f = bnd m f' := by rw [funext h]
theorem Wn_ok : Wn (.ok a) P = P a := propext ⟨fun ⟨b, e, h⟩ => by cases e; exact h, fun h => ⟨a, rfl, h⟩⟩
theorem Wn.eq (h : Wn m (· = a)) : m = .ok a := by obtain ⟨b, e, rfl⟩ := h; exact e
/-- a test -/
def cnd (d : D) (A B : R α) (_ : Tr A := .mk) (_ : Tr B := .mk) : R α := match d with
  | .bl true => A
  | .bl false => B
  | _ => .no
theorem cnd_t : cnd (.bl true) A B = A := rfl
theorem cnd_f : cnd (.bl false) A B = B := rfl
theorem cnd_n {b : Bool} : cnd (.bl (!b)) A B = cnd (.bl b) B A := by cases b <;> rfl
theorem cnd_p {p : Prop} [Decidable p] (h : p) : cnd (.bl (decide p)) A B = A := by rw [decide_eq_true h]; rfl
theorem cnd_q {p : Prop} [Decidable p] (h : ¬ p) : cnd (.bl (decide p)) A B = B := by rw [decide_eq_false h]; rfl
theorem isB_cnd {F : Bool → R α} : (isB d >>= F) = cnd d (F true) (F false) := by
  cases d with
  | bl b => cases b <;> rfl
  | _ => rfl
end
section
variable {α : Type} {P : α → Prop} {β : Type} {A B : R β} {k : β → R α}
theorem wp_d {p : Prop} [Decidable p] (h : p → Wn (bnd A k) P) (h' : ¬ p → Wn (bnd B k) P) : Wn (bnd (cnd (.bl (decide p)) A B) k) P := by
  by_cases q : p
  · rw [cnd_p q]; exact h q
  · rw [cnd_q q]; exact h' q
theorem wp_use {m : R β} {Q : β → Prop} (h : Wn m Q) (k' : ∀ x, Q x → Wn (k x) P) : Wn (bnd m k) P := by
  obtain ⟨a, rfl, h⟩ := h
  exact k' a h
end
/-! ### expressions -/
def varG : Option Slot → Nat → Env → R (Rv × Env)
  | some (.sh d), _, ρ => .ok ((d, false), ρ)
  | some (.ow d), i, ρ => .ok ((d, false), ρ.set i (.sh d))
  | _, _, _ => .no
def movG : Option Slot → Nat → Env → R (Rv × Env)
  | some (.sh d), _, ρ => .ok ((d, false), ρ)
  | some (.ow d), i, ρ => .ok ((d, true), ρ.set i .un)
  | _, _, _ => .no
def lookG : Option Slot → R D
  | some (.sh d) => .ok d
  | some (.ow d) => .ok d
  | _ => .no
def ownG : Option Slot → R D
  | some (.ow d) => .ok d
  | _ => .no
section
variable {o o' : Option Slot} {i : Nat} {ρ : Env} {d : D}
theorem varG_sh : varG (some (.sh d)) i ρ = .ok ((d, false), ρ) := rfl
theorem varG_ow : varG (some (.ow d)) i ρ = .ok ((d, false), ρ.set i (.sh d)) := rfl
theorem movG_sh : movG (some (.sh d)) i ρ = .ok ((d, false), ρ) := rfl
theorem movG_ow : movG (some (.ow d)) i ρ = .ok ((d, true), ρ.set i .un) := rfl
theorem lookG_sh : lookG (some (.sh d)) = .ok d := rfl
theorem lookG_ow : lookG (some (.ow d)) = .ok d := rfl
theorem ownG_ow : ownG (some (.ow d)) = .ok d := rfl
theorem get_0 {s : Slot} : (s :: ρ)[0]? = some s := rfl
theorem get_s {s : Slot} : (s :: ρ)[i + 1]? = ρ[i]? := List.getElem?_cons_succ
theorem set_0 {s t : Slot} : (s :: ρ).set 0 t = t :: ρ := rfl
theorem set_s {s t : Slot} : (s :: ρ).set (i + 1) t = s :: ρ.set i t := rfl
theorem ev_var : eVar i ρ = varG ρ[i]? i ρ := by unfold eVar; split <;> simp_all [varG]
theorem ev_mov0 : eMove i ρ = movG ρ[i]? i ρ := by unfold eMove; split <;> simp_all [movG]
theorem ev_look : look ρ i = lookG ρ[i]? := rfl
theorem ev_c : eC d ρ = .ok ((d, false), ρ) := rfl
end
section
variable {ρ : Env} {a b c t e k z : Ev} {i j n : Nat} {d : D} {f g : D → D → R Rv} {f1 : D → R Rv} {ms ks pre post : List Ev} {F : Fn} {G : FnR} {fn : List D → R Rv} {q : List D → List D → List D}
theorem val_bnd {β : Type} {F : D × Env → R β} : (val a ρ >>= F) = bnd (a ρ) fun r => F (r.1.1, r.2) := by unfold val; cases a ρ <;> rfl
theorem isB_bnd {β : Type} {F : Bool → R β} : (isB d >>= F) = cnd d (F true) (F false) := isB_cnd
theorem ev_bin : eBin f a b ρ = bnd (a ρ) fun r => bnd (b r.2) fun s => bnd (f r.1.1 s.1.1) fun t => .ok (t, s.2) := by unfold eBin; simp only [val_bnd]; rfl
theorem ev_un : eUn f1 a ρ = bnd (a ρ) fun r => bnd (f1 r.1.1) fun t => .ok (t, r.2) := by unfold eUn; simp only [val_bnd]; rfl
theorem ev_bor : eBor f i b ρ = bnd (look ρ i) fun _ => bnd (b ρ) fun s => bnd (look s.2 i) fun x => bnd (f x s.1.1) fun t => .ok (t, s.2) := by unfold eBor; simp only [val_bnd]; rfl
theorem ev_borR : eBorR f a i ρ = bnd (a ρ) fun r => bnd (look r.2 i) fun y => bnd (f r.1.1 y) fun t => .ok (t, r.2) := by unfold eBorR; simp only [val_bnd]; rfl
theorem ev_bor1 : eBor1 f1 i ρ = bnd (look ρ i) fun x => bnd (f1 x) fun t => .ok (t, ρ) := rfl
theorem ev_nil : evs [] ρ = .ok ([], ρ) := rfl
theorem ev_cons : evs (e :: ms) ρ = bnd (e ρ) fun r => bnd (evs ms r.2) fun s => .ok (r.1.1 :: s.1, s.2) := by rw [evs]; simp only [val_bnd]; rfl
theorem ev_n : eN fn ms ρ = bnd (evs ms ρ) fun r => bnd (fn r.1) fun t => .ok (t, r.2) := rfl
theorem ev_if : eIf t a b ρ = bnd (t ρ) fun r => cnd r.1.1 (a r.2) (b r.2) := by unfold eIf; simp only [val_bnd, isB_bnd]; rfl
theorem ev_and : eAnd a b ρ = bnd (a ρ) fun r => cnd r.1.1 (b r.2) (.ok ((.bl false, false), r.2)) := by unfold eAnd; simp only [val_bnd, isB_bnd]; rfl
theorem ev_or : eOr a b ρ = bnd (a ρ) fun r => cnd r.1.1 (.ok ((.bl true, false), r.2)) (b r.2) := by unfold eOr; simp only [val_bnd, isB_bnd]; rfl
def notR : D → R Rv
  | .bl b => .ok (.bl (!b), false)
  | _ => .no
theorem notR_bl {x : Bool} : notR (.bl x) = .ok (.bl (!x), false) := rfl
theorem ev_not : eNot a ρ = bnd (a ρ) fun r => bnd (notR r.1.1) fun t => .ok (t, r.2) := by
  unfold eNot; simp only [val_bnd]; refine bnd_fun fun r => ?_; obtain ⟨⟨d, k⟩, ρ⟩ := r; cases d <;> rfl
theorem ev_chain : eChain f g a b c ρ = bnd (a ρ) fun r => bnd (b r.2) fun s => bnd (f r.1.1 s.1.1) fun t => cnd t.1 (bnd (c s.2) fun u => bnd (g s.1.1 u.1.1) fun v => .ok (v, u.2)) (.ok ((.bl false, false), s.2)) := by
  unfold eChain; simp only [val_bnd, isB_bnd]; rfl
theorem ev_callR : eCallR G pre i post ρ = bnd (look ρ i) fun _ => bnd (evs pre ρ) fun r => bnd (evs post r.2) fun s => bnd (ownG s.2[i]?) fun d => bnd (G (r.1 ++ s.1) d) fun u => .ok (u.1, s.2.set i (.ow u.2)) := by
  show bnd (look ρ i) (fun _ => bnd (evs pre ρ) fun r => bnd (evs post r.2) fun s => _) = _
  refine bnd_fun fun _ => ?_; refine bnd_fun fun r => ?_; refine bnd_fun fun s => ?_
  dsimp only
  split
  · rename_i q; rw [q]; rfl
  · rename_i q
    cases q2 : s.2[i]? with
    | none => rfl
    | some u => cases u with
      | ow d => exact absurd q2 (q d)
      | _ => rfl
theorem ev_callT : eCallT G pre e ρ = bnd (evs pre ρ) fun r => bnd (e r.2) fun s => cnd (.bl s.1.2) (bnd (G r.1 s.1.1) fun u => .ok (u.1, s.2)) .no := by
  show bnd (evs pre ρ) (fun r => bnd (e r.2) fun s => _) = _
  refine bnd_fun fun r => ?_; refine bnd_fun fun s => ?_
  obtain ⟨⟨d, k⟩, ρ'⟩ := s
  cases k <;> rfl
theorem ev_nk : eNK F q ms ks ρ = bnd (evs ms ρ) fun s => bnd (evs ks s.2) fun u => bnd (F (q s.1 u.1)) fun t => .ok (t, u.2) := rfl
theorem isL_ok {xs : List D} : isL (.lst xs) = .ok () := rfl
theorem ev_mut {fm : D → List D → R (D × D)} : eMut fm i ms ρ = bnd (look ρ i) fun d0 => bnd (isL d0) fun _ => bnd (evs ms ρ) fun r => bnd (ownG r.2[i]?) fun d => bnd (fm d r.1) fun u => .ok ((u.1, false), r.2.set i (.ow u.2)) := by
  show bnd (look ρ i) (fun d0 => bnd (isL d0) fun _ => bnd (evs ms ρ) fun r => _) = _
  refine bnd_fun fun d0 => ?_; refine bnd_fun fun _ => ?_; refine bnd_fun fun s => ?_
  dsimp only
  split
  · rename_i q; rw [q]; rfl
  · rename_i q
    cases q2 : s.2[i]? with
    | none => rfl
    | some u => cases u with
      | ow d => exact absurd q2 (q d)
      | _ => rfl
def intR : D → R Int
  | .int i => .ok i
  | _ => .no
theorem intR_i {i : Int} : intR (.int i) = .ok i := rfl
theorem ev_part0 : part none ρ = .ok (none, ρ) := rfl
theorem ev_part1 : part (some e) ρ = bnd (e ρ) fun r => bnd (intR r.1.1) fun i => .ok (some i, r.2) := by
  unfold part; simp only [val_bnd]; refine bnd_fun fun r => ?_; obtain ⟨⟨d, k⟩, ρ⟩ := r; cases d <;> rfl
theorem ev_slice {lo hi : Option Ev} : eSlice a lo hi ρ = bnd (a ρ) fun r => bnd (part lo r.2) fun l => bnd (part hi l.2) fun h => bnd (sliceD l.1 h.1 r.1.1) fun t => .ok (t, h.2) := by unfold eSlice; simp only [val_bnd]; rfl
end
/-! ### statements -/
section
variable {ρ : Env} {a b : Sv} {t e v : Ev} {i j n p c : Nat} {d : D} {w : Bool} {g : Tg} {it : Iv} {ds : List D}
def seqk (b : Sv) : Out → Env → R (Out × Env)
  | .nx, ρ => b ρ
  | o, ρ => .ok (o, ρ)
theorem seqk_nx : seqk b .nx ρ = b ρ := rfl
theorem seqk_rt {r : Rv} : seqk b (.rt r) ρ = .ok (.rt r, ρ) := rfl
theorem ev_seq : sSeq a b ρ = bnd (a ρ) fun r => seqk b r.1 r.2 := by
  show bnd (a ρ) _ = _
  refine bnd_fun fun r => ?_; obtain ⟨o, ρ⟩ := r; cases o <;> rfl
theorem ev_next : sNext ρ = .ok (.nx, ρ) := rfl
theorem keep_tt : keep true (d, true) = .ow d := rfl
theorem keep_tf : keep true (d, false) = .sh d := rfl
theorem ev_asg : sAsg w i e ρ = bnd (e ρ) fun r => .ok (.nx, r.2.set i (keep w r.1)) := rfl
theorem ev_par {a b : Ev} : sPar w i j a b ρ = bnd (a ρ) fun r => bnd (b r.2) fun s => .ok (.nx, (s.2.set i (keep w r.1)).set j (keep w s.1)) := rfl
theorem ev_gN : gN i d ρ = .ok (ρ.set i (.sh d)) := rfl
theorem ev_gTt {gs : List Tg} : gT gs (.tup ds) ρ = gGo gs ds ρ := rfl
theorem ev_gTk {gs : List Tg} : gT gs (.kt ds) ρ = gGo gs ds ρ := rfl
theorem ev_g0 : gGo [] [] ρ = .ok ρ := rfl
theorem ev_g1 {gs : List Tg} : gGo (g :: gs) (d :: ds) ρ = bnd (g d ρ) fun ρ1 => gGo gs ds ρ1 := rfl
theorem ev_asgT : sAsgT g e ρ = bnd (e ρ) fun r => bnd (g r.1.1 r.2) fun ρ2 => .ok (.nx, ρ2) := by unfold sAsgT; simp only [val_bnd]; rfl
theorem ev_expr : sExpr e ρ = bnd (e ρ) fun r => .ok (.nx, r.2) := by unfold sExpr; simp only [val_bnd]; rfl
theorem ev_ret : sRet e ρ = bnd (e ρ) fun r => .ok (.rt r.1, r.2) := rfl
theorem ev_retV : sRetV i ρ = bnd (eMove i ρ) fun r => .ok (.rt r.1, r.2) := rfl
theorem ev_sif : sIf t a b ρ = bnd (t ρ) fun r => cnd r.1.1 (a r.2) (b r.2) := by unfold sIf; simp only [val_bnd, isB_bnd]; rfl
theorem ev_for : sFor it g a ρ = bnd (it ρ) fun r => forGo g a r.1 r.2 := rfl
theorem ev_while : sWhile t a ρ = whileGo t a fuel ρ := rfl
theorem ev_put {f3 : D → D → D → R D} : sPut f3 i e v ρ = bnd (v ρ) fun y => bnd (look y.2 i) fun _ => bnd (e y.2) fun x => bnd (ownG x.2[i]?) fun d => bnd (f3 d x.1.1 y.1.1) fun d' => .ok (.nx, x.2.set i (.ow d')) := by
  unfold sPut; simp only [val_bnd]
  refine bnd_fun fun y => ?_
  show bnd (look _ i) _ = _
  refine bnd_fun fun _ => ?_; refine bnd_fun fun x => ?_
  split
  · rename_i q; rw [q]; rfl
  · rename_i q
    cases q2 : x.2[i]? with
    | none => rfl
    | some u => cases u with
      | ow d => exact absurd q2 (q d)
      | _ => rfl
def fldG (c k : Nat) (y : D) : Option Slot → R D
  | some (.ow (.ins c' fs)) => if c' = c ∧ k = fs.length then .ok (.ins c' (fs ++ [y])) else .no
  | _ => .no
theorem ev_fld {k : Nat} : sFld c k e ρ = bnd (e ρ) fun y => bnd (fldG c k y.1.1 y.2[0]?) fun d => .ok (.nx, y.2.set 0 (.ow d)) := by
  unfold sFld; simp only [val_bnd]
  refine bnd_fun fun y => ?_
  split
  · rename_i q
    rw [q]
    show _ = bnd (if _ ∧ _ then _ else _) _
    split <;> rfl
  · rename_i q
    cases q2 : y.2[0]? with
    | none => rfl
    | some u => cases u with
      | ow d => cases d with
        | ins c fs => exact absurd q2 (q c fs)
        | _ => rfl
      | _ => rfl
theorem fldG_0 {y : D} : fldG c 0 y (some (.ow (.ins c []))) = .ok (.ins c [y]) := by simp [fldG]
theorem fldG_1 {x y : D} : fldG c 1 y (some (.ow (.ins c [x]))) = .ok (.ins c [x, y]) := by simp [fldG]
/-! defs -/
theorem end_nx : endOf .nx = .ok (.non, false) := rfl
theorem end_rt {r : Rv} : endOf (.rt r) = .ok r := rfl
theorem fn_eq (hp : ds.length = p) : mkFn n p a ds = bnd (a (slots n ds)) fun r => endOf r.1 := by unfold mkFn; rw [if_pos hp]; rfl
theorem fnR_eq (hp : ds.length + 1 = p) (hj : j < p) : mkFnR n p j a ds d = bnd (a ((slots n (ds.take j ++ d :: ds.drop j)).set j (.ow d))) fun r => bnd (endOf r.1) fun t => bnd (ownG r.2[j]?) fun d' => .ok (t, d') := by
  unfold mkFnR; rw [if_pos ⟨hp, hj⟩]
  show bnd (a _) _ = _
  refine bnd_fun fun r => ?_; obtain ⟨o, ρ⟩ := r
  show bnd (endOf o) _ = _
  refine bnd_fun fun t => ?_
  dsimp only
  split
  · rename_i q; rw [q]; rfl
  · rename_i q
    cases q2 : ρ[j]? with
    | none => rfl
    | some u => cases u with
      | ow d => exact absurd q2 (q d)
      | _ => rfl
def objE : Rv × D → R Rv
  | ((.non, false), d) => .ok (d, false)
  | _ => .no
theorem objE_go : objE ((.non, false), d) = .ok (d, false) := rfl
theorem obj_eq {G : FnR} : mkObj c G ds = bnd (G ds (.ins c [])) objE := by
  show bnd (G ds (.ins c [])) _ = _
  refine bnd_fun fun r => ?_; obtain ⟨⟨x, k⟩, d⟩ := r
  cases x <;> cases k <;> rfl
/-! what is walked -/
theorem ev_iv : iVal e ρ = bnd (e ρ) fun r => bnd (items r.1.1) fun ds => .ok (ds, r.2) := by unfold iVal; simp only [val_bnd]; rfl
theorem items_lst : items (.lst ds) = .ok ds := rfl
theorem items_tup : items (.tup ds) = .ok ds := rfl
theorem items_str {s : List Nat} : items (.str s) = .ok (s.map fun c => .str [c]) := rfl
def rngG : List D → Env → R (List D × Env)
  | [.int j], ρ1 => if -(2 ^ 62) ≤ j ∧ j < 2 ^ 62 then .ok (rng 0 j.toNat, ρ1) else .no
  | [.int i, .int j], ρ1 => if (-(2 ^ 62) ≤ i ∧ i < 2 ^ 62) ∧ -(2 ^ 62) ≤ j ∧ j < 2 ^ 62 then .ok (rng i (j - i).toNat, ρ1) else .no
  | _, _ => .no
theorem ev_range {as : List Ev} : iRange as ρ = bnd (evs as ρ) fun r => rngG r.1 r.2 := by
  show bnd (evs as ρ) _ = _
  refine bnd_fun fun r => ?_; obtain ⟨xs, ρ1⟩ := r
  match xs with
  | [] => rfl
  | [x] => cases x <;> rfl
  | [x, y] => cases x <;> cases y <;> rfl
  | x :: y :: z :: l => cases x <;> cases y <;> rfl
theorem rngG_1 {j : Int} (h1 : -(2 ^ 62) ≤ j) (h2 : j < 2 ^ 62) : rngG [.int j] ρ = .ok (rng 0 j.toNat, ρ) := by simp only [rngG, if_pos (And.intro h1 h2)]
/-! loops -/
theorem for_0 : forGo g a [] ρ = .ok (.nx, ρ) := rfl
def forE (f : Env → R (Out × Env)) : Out → Env → R (Out × Env)
  | .nx, ρ => f ρ
  | .ct, ρ => f ρ
  | .bk, ρ => .ok (.nx, ρ)
  | .rt r, ρ => .ok (.rt r, ρ)
theorem for_s : forGo g a (d :: ds) ρ = bnd (g d ρ) fun ρ1 => bnd (a ρ1) fun r => forE (forGo g a ds) r.1 r.2 := by
  show bnd (g d ρ) (fun ρ1 => bnd (a ρ1) _) = _
  refine bnd_fun fun ρ1 => ?_; refine bnd_fun fun r => ?_; obtain ⟨o, ρ2⟩ := r; cases o <;> rfl
/-- behind a round of a loop with the invariant I; P: what is wanted of the way out -/
def LoopK (I : Env → Prop) (X : Out × Env → Prop) (x : Out × Env) : Prop := match x.1 with
  | .nx => I x.2
  | .ct => I x.2
  | .bk => X (.nx, x.2)
  | .rt r => X (.rt r, x.2)
theorem LK_nx {I : Env → Prop} {X : Out × Env → Prop} : LoopK I X (.nx, ρ) = I ρ := rfl
theorem LK_bk {I : Env → Prop} {X : Out × Env → Prop} : LoopK I X (.bk, ρ) = X (.nx, ρ) := rfl
theorem LK_rt {I : Env → Prop} {X : Out × Env → Prop} {r : Rv} : LoopK I X (.rt r, ρ) = X (.rt r, ρ) := rfl
theorem wp_for {α : Type} {mk : α → D} {xs : List α} {γ : Type} {k : Out × Env → R γ} {P : γ → Prop} (I : Nat → Env → Prop) (h0 : I 0 ρ) (hs : ∀ n x ρ, xs[n]? = some x → I n ρ → Wn (bnd (g (mk x) ρ) a) (LoopK (I (n + 1)) fun y => Wn (k y) P)) (he : ∀ ρ, I xs.length ρ → Wn (k (.nx, ρ)) P) : Wn (bnd (forGo g a (xs.map mk) ρ) k) P := by
  have go : ∀ (ys : List α) (n : Nat) (ρ : Env), (∀ i, ys[i]? = xs[n + i]?) → n + ys.length = xs.length → I n ρ → Wn (bnd (forGo g a (ys.map mk) ρ) k) P := fun ys => by
    induction ys with
    | nil => intro n ρ hy hl h; exact he ρ (by rw [← hl]; exact h)
    | cons y ys ih =>
      intro n ρ hy hl h
      have st := hs n y ρ (by have := hy 0; rw [Nat.add_zero] at this; rw [← this]; rfl) h
      have nxt : ∀ ρ2, I (n + 1) ρ2 → Wn (bnd (forGo g a (ys.map mk) ρ2) k) P := fun ρ2 => ih (n + 1) ρ2 (fun i => by have := hy (i + 1); rw [show n + (i + 1) = n + 1 + i by omega] at this; rw [← this]; rfl) (by rw [List.length_cons] at hl; omega)
      rw [List.map_cons, for_s, bnd_bnd]
      have : (fun x => bnd (bnd (a x) fun r => forE (forGo g a (ys.map mk)) r.1 r.2) k) = fun x => bnd (a x) fun r => bnd (forE (forGo g a (ys.map mk)) r.1 r.2) k := by funext x; rw [bnd_bnd]
      rw [this, ← bnd_bnd]
      refine wp_use st fun x hx => ?_
      obtain ⟨o, ρ2⟩ := x
      cases o with
      | nx => exact nxt _ hx
      | ct => exact nxt _ hx
      | bk => exact hx
      | rt r => exact hx
  exact go xs 0 ρ (fun i => by rw [Nat.zero_add]) (by rw [Nat.zero_add]) h0
theorem wp_while {γ : Type} {k : Out × Env → R γ} {P : γ → Prop} (M : Env → Nat) (I : Env → Prop) (h0 : I ρ) (hM : ∀ ρ, I ρ → M ρ < fuel) (hs : ∀ ρ, I ρ → Wn (bnd (t ρ) fun r => cnd r.1.1 (a r.2) (.ok (.bk, r.2))) (LoopK (fun ρ2 => I ρ2 ∧ M ρ2 < M ρ) fun y => Wn (k y) P)) : Wn (bnd (whileGo t a fuel ρ) k) P := by
  have step : ∀ n ρ, whileGo t a (n + 1) ρ = bnd (bnd (t ρ) fun r => cnd r.1.1 (a r.2) (.ok (.bk, r.2))) fun r => forE (whileGo t a n) r.1 r.2 := fun n ρ => by
    rw [bnd_bnd]
    show (do
      let (x, ρ1) ← val t ρ
      let c ← isB x
      if c then do
        let (o, ρ2) ← a ρ1
        match o with
        | .nx => whileGo t a n ρ2
        | .ct => whileGo t a n ρ2
        | .bk => .ok (.nx, ρ2)
        | .rt r => .ok (.rt r, ρ2)
      else .ok (.nx, ρ1)) = _
    simp only [val_bnd, isB_bnd]
    refine bnd_fun fun r => ?_; obtain ⟨⟨d, b⟩, ρ1⟩ := r
    cases d with
    | bl c => cases c with
      | false => rfl
      | true =>
        show bnd (a ρ1) _ = bnd (a ρ1) _
        refine bnd_fun fun r => ?_; obtain ⟨o, ρ2⟩ := r; cases o <;> rfl
    | _ => rfl
  have go : ∀ (n : Nat) (ρ : Env), I ρ → M ρ < n → Wn (bnd (whileGo t a n ρ) k) P := fun n => by
    induction n with
    | zero => intro ρ _ h; omega
    | succ n ih =>
      intro ρ h hl
      rw [step, bnd_bnd]
      refine wp_use (hs ρ h) fun x hx => ?_
      obtain ⟨o, ρ2⟩ := x
      cases o with
      | nx => exact ih ρ2 hx.1 (by have := hx.2; dsimp only at this; omega)
      | ct => exact ih ρ2 hx.1 (by have := hx.2; dsimp only at this; omega)
      | bk => exact hx
      | rt r => exact hx
  exact go fuel ρ h0 (hM ρ h0)
/-! comprehensions -/
def cndO : Option Ev → Env → R (D × Env)
  | none, ρ => .ok (.bl true, ρ)
  | some t, ρ => bnd (t ρ) fun r => .ok (r.1.1, r.2)
theorem cndO_none : cndO none ρ = .ok (.bl true, ρ) := rfl
def lcS (g : Tg) (c : Option Ev) (e : Ev) (vs : List Nat) (ds : List D) (ρ1 : Env) : R (Rv × Env) := if noOw ρ1 vs && decide (ds.length ≤ 1000) then do
    let (acc, ρ2) ← lcGo g c e vs ds [] ρ1
    pure ((.lst acc, true), backS ρ1 ρ2 vs)
  else .no
theorem ev_lc {c : Option Ev} {vs : List Nat} : eLc it g c e vs ρ = bnd (it ρ) fun r => lcS g c e vs r.1 r.2 := rfl
theorem lcGo_s {c : Option Ev} {vs : List Nat} {acc : List D} : lcGo g c e vs (d :: ds) acc ρ = bnd (g d (wipeS ρ vs)) fun ρ1 => bnd (cndO c ρ1) fun s => cnd s.1 (bnd (e s.2) fun y => lcGo g c e vs ds (acc ++ [y.1.1]) y.2) (lcGo g c e vs ds acc s.2) := by
  show bnd (g d (wipeS ρ vs)) _ = _
  refine bnd_fun fun ρ1 => ?_
  cases c with
  | none => show bnd (val e ρ1) _ = bnd (e ρ1) _; exact val_bnd
  | some t =>
    show bnd (val t ρ1 >>= fun p => isB p.1 >>= fun b => .ok (b, p.2)) _ = _
    rw [val_bnd, bnd_bnd]
    show _ = bnd (bnd (t ρ1) _) _
    rw [bnd_bnd]
    refine bnd_fun fun r => ?_; obtain ⟨⟨x, k⟩, ρ2⟩ := r
    cases x with
    | bl c => cases c with
      | false => rfl
      | true => show bnd (val e ρ2) _ = bnd (e ρ2) _; exact val_bnd
    | _ => rfl
/-- with an invariant over what is made so far -/
theorem wp_lc {α : Type} {mk : α → D} {xs : List α} {c : Option Ev} {vs : List Nat} {γ : Type} {k : Rv × Env → R γ} {P : γ → Prop} (I : Nat → List D → Env → Prop) (hn : noOw ρ vs = true) (hl : xs.length ≤ 1000) (h0 : I 0 [] ρ) (hs : ∀ n x acc ρ, xs[n]? = some x → I n acc ρ → Wn (bnd (g (mk x) (wipeS ρ vs)) fun ρ1 => bnd (cndO c ρ1) fun s => cnd s.1 (bnd (e s.2) fun y => .ok (acc ++ [y.1.1], y.2)) (.ok (acc, s.2))) fun y => I (n + 1) y.1 y.2) (he : ∀ acc ρ', I xs.length acc ρ' → Wn (k ((.lst acc, true), backS ρ ρ' vs)) P) : Wn (bnd (lcS g c e vs (xs.map mk) ρ) k) P := by
  have go : ∀ (ys : List α) (n : Nat) (acc : List D) (ρ' : Env), (∀ i, ys[i]? = xs[n + i]?) → n + ys.length = xs.length → I n acc ρ' → Wn (bnd (lcGo g c e vs (ys.map mk) acc ρ') fun r => k ((.lst r.1, true), backS ρ r.2 vs)) P := fun ys => by
    induction ys with
    | nil => intro n acc ρ hy hl h; exact he acc ρ (by rw [← hl]; exact h)
    | cons y ys ih =>
      intro n acc ρ' hy hl h
      have st := hs n y acc ρ' (by have := hy 0; rw [Nat.add_zero] at this; rw [← this]; rfl) h
      have nxt := fun acc ρ2 => ih (n + 1) acc ρ2 (fun i => by have := hy (i + 1); rw [show n + (i + 1) = n + 1 + i by omega] at this; rw [← this]; rfl) (by rw [List.length_cons] at hl; omega)
      have e1 : lcGo g c e vs (mk y :: ys.map mk) acc ρ' = bnd (bnd (g (mk y) (wipeS ρ' vs)) fun ρ1 => bnd (cndO c ρ1) fun s => cnd s.1 (bnd (e s.2) fun y => .ok (acc ++ [y.1.1], y.2)) (.ok (acc, s.2))) fun r => lcGo g c e vs (ys.map mk) r.1 r.2 := by
        rw [lcGo_s, bnd_bnd]; refine bnd_fun fun ρ1 => ?_; rw [bnd_bnd]; refine bnd_fun fun s => ?_
        obtain ⟨s1, s2⟩ := s
        cases s1 with
        | bl b => cases b with
          | false => rfl
          | true => show bnd (e s2) _ = bnd (bnd (e s2) _) _; rw [bnd_bnd]; rfl
        | _ => rfl
      rw [List.map_cons, e1, bnd_bnd]
      exact wp_use st fun x hx => nxt _ _ hx
  have e0 : lcS g c e vs (xs.map mk) ρ = bnd (lcGo g c e vs (xs.map mk) [] ρ) fun r => .ok ((.lst r.1, true), backS ρ r.2 vs) := by
    unfold lcS
    rw [hn, List.length_map, decide_eq_true hl]; rfl
  rw [e0, bnd_bnd]
  exact go xs 0 [] ρ (fun i => by rw [Nat.zero_add]) (by rw [Nat.zero_add]) h0
/-- each element is a function of what is walked; the slots stay -/
theorem lc_eq {α : Type} {mk : α → D} {xs : List α} {c : Option Ev} {vs : List Nat} (f : α → Option D) (hn : noOw ρ vs = true) (hl : xs.length ≤ 1000)
    (hs : ∀ x ∈ xs, ∃ ρ', (bnd (g (mk x) (wipeS ρ vs)) fun ρ1 => bnd (cndO c ρ1) fun s => cnd s.1 (bnd (e s.2) fun y => .ok (some y.1.1, y.2)) (.ok (none, s.2))) = .ok (f x, ρ') ∧ wipeS ρ' vs = wipeS ρ vs ∧ backS ρ ρ' vs = ρ) (hb : backS ρ ρ vs = ρ := by rfl) : lcS g c e vs (xs.map mk) ρ = .ok ((.lst (xs.filterMap f), true), ρ) := by
  refine Wn.eq (m := lcS g c e vs (xs.map mk) ρ) ?_
  have : lcS g c e vs (xs.map mk) ρ = bnd (lcS g c e vs (xs.map mk) ρ) .ok := by cases lcS g c e vs (xs.map mk) ρ <;> rfl
  rw [this]
  refine wp_lc (fun n acc ρ' => acc = (xs.take n).filterMap f ∧ wipeS ρ' vs = wipeS ρ vs ∧ backS ρ ρ' vs = ρ) hn hl ⟨by simp, rfl, hb⟩ (fun n x acc ρ' hx h => ?_) fun acc ρ' h => ?_
  · obtain ⟨rfl, h1, h2⟩ := h
    have mem := List.mem_of_getElem? hx
    obtain ⟨ρ2, e2, h3, h4⟩ := hs x mem
    have tk : xs.take (n + 1) = xs.take n ++ [x] := by rw [List.take_add_one, hx]; rfl
    rw [h1]
    have key : (bnd (g (mk x) (wipeS ρ vs)) fun ρ1 => bnd (cndO c ρ1) fun s => cnd s.1 (bnd (e s.2) fun y => .ok ((xs.take n).filterMap f ++ [y.1.1], y.2)) (.ok ((xs.take n).filterMap f, s.2))) = bnd (bnd (g (mk x) (wipeS ρ vs)) fun ρ1 => bnd (cndO c ρ1) fun s => cnd s.1 (bnd (e s.2) fun y => .ok (some y.1.1, y.2)) (.ok (none, s.2))) fun r => .ok ((xs.take n).filterMap f ++ r.1.toList, r.2) := by
      rw [bnd_bnd]; refine bnd_fun fun ρ1 => ?_; rw [bnd_bnd]; refine bnd_fun fun s => ?_
      obtain ⟨s1, s2⟩ := s
      cases s1 with
      | bl b => cases b with
        | false => show R.ok _ = R.ok _; simp
        | true => show bnd (e s2) _ = bnd (bnd (e s2) _) _; rw [bnd_bnd]; rfl
      | _ => rfl
    rw [key, e2]
    refine ⟨_, rfl, ?_, h3, h4⟩
    rw [tk, List.filterMap_append, List.filterMap_cons]
    cases f x <;> simp
  · obtain ⟨rfl, h1, h2⟩ := h
    exact ⟨_, rfl, by rw [h2, List.take_length]⟩
end
end DY

set_option Elab.async false
set_option linter.all false
set_option maxRecDepth 100000
set_option maxHeartbeats 4000000
namespace DY
/-! ### operations, as rewriting -/
section
variable {own : D → D → R Rv} {own1 : D → R Rv} {i j : Int} {a b : List Nat} {xs ys : List D} {x y z d : D} {c c' : Nat} {fs fs' : List D} {p q : Bool} {kvs : List (Ky × D)} {kvt : List (List Ky × D)} {f h : D → D → R Rv} {t : BT}
theorem add_i : addD own (.int i) (.int j) = .ok (.int (i + j), false) := rfl
theorem add_s (h : a.length + b.length ≤ 100000) : addD own (.str a) (.str b) = .ok (.str (a ++ b), false) := by simp only [addD, if_pos h]; rfl
theorem add_l (h : xs.length + ys.length ≤ 1000) : addD own (.lst xs) (.lst ys) = .ok (.lst (xs ++ ys), true) := by simp only [addD, if_pos h]
theorem add_t (h : xs.length + ys.length ≤ 1000) : addD own (.tup xs) (.tup ys) = .ok (.tup (xs ++ ys), false) := by simp only [addD, if_pos h]
theorem sub_i : subD own (.int i) (.int j) = .ok (.int (i - j), false) := rfl
theorem mul_i (h : mulOk i j = true) : mulD own (.int i) (.int j) = .ok (.int (i * j), false) := by simp only [mulD, if_pos h]; rfl
theorem fdiv_i (h : divOk j = true) : fdivD (.int i) (.int j) = .ok (.int (i.fdiv j), false) := by simp only [fdivD, if_pos h]; rfl
theorem mod_i (h : j ≠ 0) : modD (.int i) (.int j) = .ok (.int (i.fmod j), false) := by simp only [modD, if_neg h]; rfl
theorem pow_i (h1 : 0 ≤ j) (h2 : j ≤ 1000) (h3 : i.natAbs < 18446744073709551616) : powD (.int i) (.int j) = .ok (.int (i ^ j.toNat), false) := by simp only [powD, if_pos (And.intro h1 (And.intro h2 h3))]; rfl
theorem neg_i : negD own1 (.int i) = .ok (.int (-i), false) := rfl
theorem mulOk_n (h1 : i.natAbs ≤ 2 ^ 200) (h2 : j.natAbs ≤ 2 ^ 200) : mulOk i j = true := mulOk_b (by omega) (by omega) (by omega) (by omega)
theorem lt_i : ltD (.int i) (.int j) = .ok (.bl (decide (i < j)), false) := rfl
theorem le_i : leD (.int i) (.int j) = .ok (.bl (decide (i ≤ j)), false) := rfl
theorem le_s : leD (.str a) (.str b) = .ok (.bl (!ltN b a), false) := rfl
theorem gt_i : gtD (.int i) (.int j) = .ok (.bl (decide (j < i)), false) := rfl
theorem ge_i : geD (.int i) (.int j) = .ok (.bl (decide (j ≤ i)), false) := rfl
theorem eq_i : eqD own (.int i) (.int j) = .ok (.bl (decide (i = j)), false) := rfl
theorem eq_s : eqD own (.str a) (.str b) = .ok (.bl (decide (a = b)), false) := rfl
theorem eq_o : eqD own (.ins c fs) y = own (.ins c fs) y := by cases y <;> rfl
theorem ne_i : neD own (.int i) (.int j) = .ok (.bl (!decide (i = j)), false) := rfl
theorem ne_s : neD own (.str a) (.str b) = .ok (.bl (!decide (a = b)), false) := rfl
theorem eqv_s : eqv (.str a) (.str b) = decide (a = b) := by unfold eqv; rw [Bool.eq_iff_iff]; simp
theorem eq_g (hx : dok dep x = true) (hy : dok dep y = true) : eqD own x y = .ok (.bl (eqv x y), false) := by
  have : eqG own x y = .ok (.bl (eqv x y), false) := by unfold eqG; rw [hx, hy]; rfl
  cases x <;> cases y <;> first | exact this | rfl | (rw [eqv_s]; rfl)
theorem ne_g (hx : dok dep x = true) (hy : dok dep y = true) : neD own x y = .ok (.bl (!eqv x y), false) := by
  have : neG own x y = .ok (.bl (!eqv x y), false) := by unfold neG; rw [hx, hy]; rfl
  cases x <;> cases y <;> first | exact this | rfl | (rw [eqv_s]; rfl)
theorem isN_i : isN (.int i) .non = .ok (.bl false, false) := rfl
theorem isN_l : isN (.lst xs) .non = .ok (.bl false, false) := rfl
theorem isN_o : isN (.ins c fs) .non = .ok (.bl false, false) := rfl
/-! own operators -/
theorem sel_t {g : D → D → Bool} (hg : g x y = true) : sel g f h x y = f x y := by unfold sel; rw [hg]; rfl
theorem sel1_t {g : D → Bool} {f h : D → R Rv} (hg : g x = true) : sel1 g f h x = f x := by unfold sel1; rw [hg]; rfl
/-! in -/
theorem in_c {n : Nat} : inD (.str [n]) (.str a) = .ok (.bl (decide (n ∈ a)), false) := rfl
theorem in_t (h : (flat x && xs.all flat) = true) : inD x (.tup xs) = .ok (.bl (xs.any fun z => eqv z x), false) := by
  unfold inD inB
  cases x <;> first | (simp only [h, if_true]; rfl) | (cases h; done)
theorem in_l (h : (dok dep x && doks dep xs) = true) : inD x (.lst xs) = .ok (.bl (xs.any fun z => eqv z x), false) := by
  unfold inD inB
  cases x <;> first | (simp only [h, if_true]; rfl) | (cases h; done)
theorem nin_c {n : Nat} : ninD (.str [n]) (.str a) = .ok (.bl (!decide (n ∈ a)), false) := rfl
/-! x[i] -/
theorem ixt_0 : ixD (.tup (x :: xs)) (.int 0) = .ok (x, false) := by show opt (atI (x :: xs) 0) = _; simp [atI, ixN, opt]
theorem ixt_1 : ixD (.tup (x :: y :: xs)) (.int 1) = .ok (y, false) := by show opt (atI (x :: y :: xs) 1) = _; simp [atI, ixN, opt]; rw [if_pos (by omega)]; rfl
theorem ixt_2 : ixD (.tup (x :: y :: z :: xs)) (.int 2) = .ok (z, false) := by show opt (atI (x :: y :: z :: xs) 2) = _; simp [atI, ixN, opt]; rw [if_pos (by omega)]; rfl
theorem ixt_3 {w : D} : ixD (.tup (x :: y :: z :: w :: xs)) (.int 3) = .ok (w, false) := by show opt (atI (x :: y :: z :: w :: xs) 3) = _; simp [atI, ixN, opt]; rw [if_pos (by omega)]; rfl
theorem ixl_0 : ixD (.lst (x :: xs)) (.int 0) = .ok (x, false) := by show opt (atI (x :: xs) 0) = _; simp [atI, ixN, opt]
theorem ixl_1 : ixD (.lst (x :: y :: xs)) (.int 1) = .ok (y, false) := by show opt (atI (x :: y :: xs) 1) = _; simp [atI, ixN, opt]; rw [if_pos (by omega)]; rfl
theorem ixl_2 : ixD (.lst (x :: y :: z :: xs)) (.int 2) = .ok (z, false) := by show opt (atI (x :: y :: z :: xs) 2) = _; simp [atI, ixN, opt]; rw [if_pos (by omega)]; rfl
theorem ix_l (h0 : 0 ≤ i) (h1 : i < xs.length) : ixD (.lst xs) (.int i) = .ok (xs[i.toNat]'(by omega), false) := by
  obtain ⟨d, e1, e2⟩ := at_ok h0 h1
  show opt (atI xs i) = _
  rw [e2, List.getElem?_eq_getElem (by omega)] at *
  cases e1; rfl
theorem ix_t (h0 : 0 ≤ i) (h1 : i < xs.length) : ixD (.tup xs) (.int i) = .ok (xs[i.toNat]'(by omega), false) := by
  obtain ⟨d, e1, e2⟩ := at_ok h0 h1
  show opt (atI xs i) = _
  rw [e2, List.getElem?_eq_getElem (by omega)] at *
  cases e1; rfl
theorem ix_f (h0 : 0 ≤ i) (h1 : i < xs.length) : ixD (.fls xs) (.int i) = .ok (xs[i.toNat]'(by omega), false) := by
  obtain ⟨d, e1, e2⟩ := at_ok h0 h1
  show opt (atI xs i) = _
  rw [e2, List.getElem?_eq_getElem (by omega)] at *
  cases e1; rfl
theorem sl_f {lo hi : Option Int} : sliceD lo hi (.fls xs) = .ok (.lst (cut xs lo hi), true) := rfl
theorem sl_t {lo hi : Option Int} : sliceD lo hi (.tup xs) = .ok (.tup (cut xs lo hi), false) := rfl
theorem sl_s {lo hi : Option Int} (h : a.length ≤ 100000) : sliceD lo hi (.str a) = .ok (.str (cut a lo hi), false) := by simp only [sliceD, if_pos h]; rfl
/-! built-ins -/
theorem len_l : lenB own1 (.lst xs) = .ok (.int xs.length, false) := rfl
theorem len_f : lenB own1 (.fls xs) = .ok (.int xs.length, false) := rfl
theorem len_t : lenB own1 (.tup xs) = .ok (.int xs.length, false) := rfl
theorem len_s (h : a.length ≤ 100000) : lenB own1 (.str a) = .ok (.int a.length, false) := by simp only [lenB, if_pos h]; rfl
theorem isi_int_i : isiD [.int i, .ty .int] = .ok (.bl true, false) := rfl
theorem isi_int_b : isiD [.bl p, .ty .int] = .ok (.bl true, false) := rfl
theorem isi_bool_b : isiD [.bl p, .ty .bool] = .ok (.bl true, false) := rfl
theorem isi_bool_i : isiD [.int i, .ty .bool] = .ok (.bl false, false) := rfl
theorem isi_str_s : isiD [.str a, .ty .str] = .ok (.bl true, false) := rfl
theorem isi_str_i : isiD [.int i, .ty .str] = .ok (.bl false, false) := rfl
theorem isi_str_t : isiD [.tup xs, .ty .str] = .ok (.bl false, false) := rfl
theorem isi_tup_t : isiD [.tup xs, .ty .tuple] = .ok (.bl true, false) := rfl
theorem isi_tup_i : isiD [.int i, .ty .tuple] = .ok (.bl false, false) := rfl
theorem isi_tup_s : isiD [.str a, .ty .tuple] = .ok (.bl false, false) := rfl
theorem isi_int_s : isiD [.str a, .ty .int] = .ok (.bl false, false) := rfl
theorem isi_int_t : isiD [.tup xs, .ty .int] = .ok (.bl false, false) := rfl
theorem isi_o : isiD [.ins c fs, .cls c'] = .ok (.bl (decide (c = c')), false) := rfl
theorem isi_c_t : isiD [.tup xs, .cls c'] = .ok (.bl false, false) := rfl
theorem abs_i : absD [.int i] = .ok (.int (if i < 0 then -i else i), false) := rfl
theorem int_i : intD [.int i] = .ok (.int i, false) := rfl
theorem max_i : maxD [.int i, .int j] = .ok (.int (max i j), false) := by
  have : (if j > i then j else i) = max i j := by rw [Int.max_def]; split <;> split <;> omega
  rw [← this]; rfl
theorem min_i : minD [.int i, .int j] = .ok (.int (min i j), false) := by
  have : (if j < i then j else i) = min i j := by rw [Int.min_def]; split <;> split <;> omega
  rw [← this]; rfl
theorem bools_map (l : List Bool) : boolsOf (l.map D.bl) = .ok l := by
  induction l with
  | nil => rfl
  | cons b l ih => rw [List.map_cons, boolsOf, ih]; rfl
theorem strs_map (l : List (List Nat)) : strsOf (l.map D.str) = .ok l := by
  induction l with
  | nil => rfl
  | cons b l ih => rw [List.map_cons, strsOf, ih]; rfl
theorem all_m {l : List Bool} : allD [.lst (l.map D.bl)] = .ok (.bl (l.all id), false) := by
  show (boolsOf (l.map D.bl) >>= fun bs => bl_ (bs.all id)) = _; rw [bools_map]; rfl
theorem tuple_l : tupleD [.lst xs] = .ok (.tup xs, false) := rfl
theorem str_o : strD own1 [.ins c fs] = own1 (.ins c fs) := rfl
theorem mkTup_e (h : xs.length ≤ 1000) : mkTup xs = .ok (.tup xs, false) := by unfold mkTup; rw [if_pos h]
theorem mkLst_e (h : xs.length ≤ 1000) : mkLst xs = .ok (.lst xs, true) := by unfold mkLst; rw [if_pos h]
theorem app_e (h : xs.length < 1000) : appendM (.lst xs) [y] = .ok (.non, .lst (xs ++ [y])) := by simp only [appendM, if_pos h]
theorem put_l0 : putM (.lst (x :: xs)) (.int 0) y = .ok (.lst (y :: xs)) := by simp [putM, ixN]
theorem put_l1 : putM (.lst (x :: z :: xs)) (.int 1) y = .ok (.lst (x :: y :: xs)) := by simp [putM, ixN]; rw [if_pos (by omega)]; rfl
theorem put_l2 {w : D} : putM (.lst (x :: z :: w :: xs)) (.int 2) y = .ok (.lst (x :: z :: y :: xs)) := by simp [putM, ixN]; rw [if_pos (by omega)]; rfl
theorem fld_0 : fldD c 0 (.ins c (x :: fs)) = .ok (x, false) := by simp [fldD, opt]
theorem fld_1 : fldD c 1 (.ins c (x :: y :: fs)) = .ok (y, false) := by simp [fldD, opt]
end
end DY
namespace DY
theorem ix_s {i : Int} {a : List Nat} (hz : a.length ≤ 100000) (h0 : 0 ≤ i) (h1 : i < a.length) : ixD (.str a) (.int i) = .ok (.str [a[i.toNat]'(by omega)], false) := by
  have hl : i.toNat < a.length := by omega
  show (if a.length ≤ 100000 then opt ((atI a i).map fun c => .str [c]) else .no) = _
  rw [if_pos hz]
  unfold atI ixN
  rw [if_pos h0, if_pos h1]
  show opt ((a[i.toNat]?).map fun c => .str [c]) = _
  rw [List.getElem?_eq_getElem hl]; rfl
end DY
namespace DY
theorem wipe_0 {ρ : Env} : wipeS ρ [] = ρ := rfl
theorem wipe_s {ρ : Env} {i : Nat} {is : List Nat} : wipeS ρ (i :: is) = (wipeS ρ is).set i .un := rfl
end DY
namespace DY
section
variable {ρ : Env} {ek ev : Ev} {g : Tg} {it : Iv} {d : D} {ds : List D}
end
end DY
namespace DY
section
variable {ρ ρ0 : Env} {e : Ev} {g : Tg} {d : D} {ds acc : List D} {c : Option Ev} {i : Nat} {is vs : List Nat} {s : Slot}
def okS : Option Slot → Bool
  | some (.ow _) => false
  | some _ => true
  | none => false
/-- a slot that holds no object -/
def unS : Option D → Slot
  | none => .un
  | some d => .sh d
theorem okS_un : okS (some .un) = true := rfl
theorem okS_sh : okS (some (.sh d)) = true := rfl
theorem okS_us {k : Option D} : okS (some (unS k)) = true := by cases k <;> rfl
theorem noOw_0 : noOw ρ [] = true := rfl
theorem noOw_s : noOw ρ (i :: is) = (okS ρ[i]? && noOw ρ is) := by
  unfold noOw
  rw [List.all_cons]
  cases ρ[i]? with
  | none => rfl
  | some s => cases s <;> rfl
theorem back_0 : backS ρ0 ρ [] = ρ := rfl
theorem back_s : backS ρ0 ρ (i :: is) = (backS ρ0 ρ is).set i (ρ0.getD i .un) := rfl
theorem getD_0 {t : Slot} : (s :: ρ).getD 0 t = s := rfl
theorem getD_s {t : Slot} : (s :: ρ).getD (i + 1) t = ρ.getD i t := by simp [List.getD]
theorem lcS_lit (hn : noOw ρ vs = true) (hl : ds.length ≤ 1000) : lcS g c e vs ds ρ = bnd (lcGo g c e vs ds [] ρ) fun r => .ok ((.lst r.1, true), backS ρ r.2 vs) := by
  unfold lcS
  simp only [hn, decide_eq_true hl]; rfl
theorem lcGo_0 : lcGo g c e vs [] acc ρ = .ok (acc, ρ) := rfl
end
end DY

set_option Elab.async false
set_option linter.all false
set_option maxRecDepth 100000
namespace DY
/-! ### ties: walks and their weights -/
abbrev Wd := List Nat
abbrev Tie := Wd × Wd × Int
structure Gr (ps : List Wd) (ts : List Tie) : Prop where
  nd : ps.Nodup
  fst : ∀ t ∈ ts, t.1 ∈ ps
  snd : ∀ t ∈ ts, t.2.1 ∈ ps
  pos : ∀ t ∈ ts, 0 ≤ t.2.2
def Ed (ts : List Tie) (a b : Wd) (r : Int) : Prop := (a, b, r) ∈ ts ∨ (b, a, r) ∈ ts
section
variable {ps : List Wd} {ts : List Tie} {p q a b : Wd} {w r : Int} {vs : List Wd}
/-! ### all middles: one behind the other -/
end
end DY

set_option Elab.async false
set_option linter.all false
set_option maxRecDepth 100000
set_option maxHeartbeats 4000000
namespace DY
local instance : Tb := { T := [] }
/-! ### dicts by texts: the keys in order, the values a function of them -/
section
variable {ks : List Wd} {f : Wd → D} {k : Wd} {v : D}
end
section
variable {κ : Type} [DecidableEq κ] {kvs : List (κ × D)} {k k' : κ} {v : D}
end
/-! ### dicts by pairs of texts -/
def k2 (a b : Wd) : List Ky := [.inr a, .inr b]
section
variable {kvs : List (List Ky × D)} {a b : Wd} {z : D}
end
/-! ### the new readings, by rewriting -/
section
variable {ρ : Env} {e : Ev} {ds : List D} {i : Nat}
/-! lending -/
end
/-! list of a text -/
section
variable {xs : List D} {ys : List Nat} {kvs : List (Ky × D)}
theorem listS_s (h : ys.length ≤ 1000) : listSD [.str ys] = .ok (.lst (ys.map fun c => .str [c]), true) := by
  show (if ys.length ≤ 1000 then R.ok (D.lst (ys.map fun c => D.str [c]), true) else .no) = _
  rw [if_pos h]
/-! pop at a place -/
theorem pop_at {i : Int} (h0 : 0 ≤ i) (h1 : i < xs.length) (h2 : xs.length ≤ 1000) : popM (.lst xs) [.int i] = .ok (xs[i.toNat]'(by omega), .lst (xs.eraseIdx i.toNat)) := by
  have e : ixN xs.length i = some i.toNat := by unfold ixN; rw [if_pos h0, if_pos h1]
  have e2 : xs[i.toNat]? = some (xs[i.toNat]'(by omega)) := List.getElem?_eq_getElem (by omega)
  unfold popM
  dsimp only
  rw [if_pos h2, e]
  dsimp only
  rw [e2]
end
/-! comprehensions with pairs as keys -/
section
variable {ρ : Env} {ek ev : Ev} {g : Tg} {it : Iv} {d : D} {ds : List D}
end
end DY

set_option Elab.async false
set_option linter.all false
set_option maxRecDepth 100000
set_option maxHeartbeats 4000000
/-! ### the readings of DYzp, DYdv, DYtd, by rewriting -/
namespace DY
local instance : Tb := { T := [] }
section
variable {ρ : Env} {e e1 e2 v m m1 m2 m3 : Ev} {ds es : List D} {i j : Nat} {a b n : Int} {x y d : D}
end
end DY

set_option Elab.async false
set_option linter.all false
set_option maxRecDepth 100000
set_option maxHeartbeats 4000000
/-! ### list(range(i, j)) -/
namespace DY
open PySem L2 PySem.Spec PyProof.Rows
section
variable [Tb]
end
local instance : Tb := { T := [] }
end DY

set_option Elab.async false
set_option linter.all false
set_option maxRecDepth 100000
set_option maxHeartbeats 4000000
/-! DYtr: a try whose body does not raise -/
namespace DY
open PySem L2 PySem.Spec PyProof.Rows SL
variable [Tb]
/-! repr of a truth -/
end DY

set_option Elab.async false
set_option linter.all false
set_option maxRecDepth 100000
set_option maxHeartbeats 4000000
/-! ### s[::-1] of a text, tuple(text), text.upper(), repr of small data -/
namespace DY
open PySem L2 PySem.Spec PyProof.Rows
variable [Tb]
section
variable {X : Cx} {A : CT} {σ : L2.St} {H : Hp} {Q : VK}
/-! ### tuple(text) -/
/-! ### text.upper() -/
/-! ### repr of small data -/
end
end DY

set_option Elab.async false
set_option linter.all false
set_option maxRecDepth 100000
set_option maxHeartbeats 4000000
namespace DY
open PySem L2 PySem.Spec PyProof.Rows
variable [Tb]
/-! ### xs != [] of an own list, whatever it holds -/
def neE : D → D → R Rv
  | .lst xs, .lst [] => bl_ (!xs.isEmpty)
  | _, _ => .no
section
variable {X : Cx} {A : CT}
def rNE : R2 := fun x y H Q => ∃ l m xs, x = .ref l ∧ y = .ref m ∧ H l = some (.lst xs) ∧ H m = some (.lst []) ∧ Q (.bl (!xs.isEmpty)) H
theorem op_neE (hu : X.A.units + 64 < cLine) : OpR X (compareOp .NotEq) rNE := by
  intro pins s σ H x y v u Q I rx ry h
  obtain ⟨l, m, xs, rfl, rfl, hl, hm, q⟩ := h
  cases rx; cases ry
  obtain ⟨z, its, n, r, hll, e⟩ := I.lstM hl
  obtain ⟨z2, its2, n2, r2, hl2, e2⟩ := I.lstM hm
  have il : s.heap.IsList l its.toArray := ⟨_, e, rfl, n, rfl⟩
  have im : s.heap.IsList m its2.toArray := ⟨_, e2, rfl, n2, rfl⟩
  have h2 : its2 = [] := List.eq_nil_of_length_eq_zero hl2.symm
  subst h2
  cases xs with
  | nil =>
    have h1 : its = [] := List.eq_nil_of_length_eq_zero hll.symm
    subst h1
    exact SeqAt.RcNeAt.lists (A := X.A) (e := fun _ => true) il im rfl (by omega) (fun j h1 _ => absurd h1 (by simp)) X.prog X.w X.xe _ ⟨.bl _, H, I, rfl, q⟩
  | cons x xs =>
    have h1 : (its.toArray.size != ([] : List Value).toArray.size) = true := by
      rw [List.size_toArray, ← hll]; simp
    exact SeqAt.RcNeAt.lists_lengths (A := X.A) il im h1 (by omega) X.prog X.w X.xe _ ⟨.bl _, H, I, rfl, q⟩
theorem o_neb (hu : X.A.units + 64 < cLine) : OpR X (compareOp .NotEq) (rDb X.K A neE) := by
  intro pins s σ H x y v u Q I rx ry h
  obtain ⟨G, d1, d2, d, sb, r1, r2, e, k⟩ := h
  unfold neE at e
  split at e
  · rename_i xs
    cases e
    obtain ⟨p, vs, rfl, h0, rr⟩ := r1.lst sb
    cases r2 with
    | lst hm rs =>
      cases rs
      refine op_neE hu pins s σ H _ _ v u Q I rx ry ⟨p, _, vs, rfl, rfl, h0, sb.lst hm, ?_⟩
      have z : vs.isEmpty = xs.isEmpty := by
        have hl := rr.len
        cases vs with
        | nil => cases xs with
          | nil => rfl
          | cons a b => simp at hl
        | cons c d => cases xs with
          | nil => simp at hl
          | cons a b => rfl
      rw [z]
      exact k _ (.bl _)
  · cases e
theorem nf_neE : ∀ x y r, neE x y = .ok r → r.2 = false := by
  intro x y r h
  unfold neE at h
  split at h <;> cases h
  rfl
variable {a b : Expr} {ma mb : Ev} {pos pos' p apos : Pos} {x : Str} {i : Nat}
theorem pdt_neE (hu : X.A.units + 64 < cLine) (h : PE X (.Name x pos') (tVar i)) (hb : PD A X b mb) (hm : behindInMarks .NotEq b = false) : PDT A X (.Compare (.Name x pos') [.NotEq] [b] pos) (eBor neE i mb) :=
  PT.imp (pt_cmpR (o_neb hu) h hb hm) fun _ _ _ h => bor_use nf_neE (test_use h)
/-! ### xs.pop(), xs.extend(ys) -/
theorem liftA_nil {K : PySem.W.Frag} {σ : L2.St} {H : Hp} {Q : List V → Hp → Prop} (h : liftA K A [] σ H Q) : Q [] H := by
  obtain ⟨G, ρ, ds, ρ', s, e, k⟩ := h
  cases e
  exact k [] G H (Nx.refl s) .nil
theorem pd_pop0 (h : PE X (.Name x pos') (tVar i)) (hline : (apos.endLine == pos.line) = true := by rfl)
    (hbase : attributeBase (.Name x pos') "pop" X.env (eval (.Name x pos') X.env) = eval (.Name x pos') X.env := by rfl) :
    PD A X (.Call (.Attribute (.Name x pos') "pop" apos) [] [] pos) (eMut popM i []) :=
  PE.imp (pe_bm0 (r := fun x xs H Q => rPop x xs H Q ∨ rPopAt x xs H Q) PySem.F.plainAttrs_list PySem.F.slot_list_pop PySem.F.type_list_pop (by
      intro pins s σ H v vs u us Q I r1 r2 q
      rcases q with q | q
      · exact mt_pop pins s σ H v vs u us Q I r1 r2 q
      · exact mt_popAt pins s σ H v vs u us Q I r1 r2 q) h hbase hline) fun σ H Q q => by
    obtain ⟨v, hv, ty, k⟩ := mut_use (r := fun x xs H Q => rPop x xs H Q ∨ rPopAt x xs H Q) pop_l pop_r q
    exact ⟨v, hv, ty, liftA_nil k⟩
def extendM : D → List D → R (D × D)
  | .lst xs, [.lst ys] => if xs.length + ys.length ≤ 100000 then .ok (.non, .lst (xs ++ ys)) else .no
  | _, _ => .no
theorem ext_l (d : D) (xs : List D) (q : D × D) (e : extendM d xs = .ok q) : ∃ ds, d = .lst ds := by
  unfold extendM at e
  split at e
  · exact ⟨_, rfl⟩
  · cases e
theorem ext_r {K : PySem.W.Frag} {p : Addr} {vs ws : List V} {ds xs : List D} {d' y : D} {G H : Hp} {Q : VK} (sb : Sub G H) (hp : H p = some (.lst vs)) (r : Reps K A G vs ds) (rs : Reps K A G ws xs) (e : extendM (.lst ds) xs = .ok (y, d')) (k : ∀ v o, Rep K A G v y → Has K A G (upd H p o) p d' → Q v (upd H p o)) : rExtend (.ref p) ws H Q := by
  unfold extendM at e
  split at e
  · rename_i h; cases h
    obtain ⟨w, rfl, rw'⟩ := rs.inv1
    cases rw' with
    | lst hb rr =>
      split at e
      · rename_i q
        cases e
        exact ⟨p, _, vs, _, rfl, rfl, hp, sb.lst hb, by rw [r.len, rr.len, sizeLine_eq]; omega, k _ _ .non ⟨_, upd_same, r.append rr⟩⟩
      · cases e
  · cases e
theorem pd_extend {e : Expr} {me : Ev} (hx : ∀ {r : V → List V → Hp → VK → Prop}, MtM X "list.extend" r → PE X (.Call (.Attribute (.Name x pos') "extend" apos) [e] [] pos) (tBM X.K "list" r (tVar i) (liftA X.K A [me]))) :
    PD A X (.Call (.Attribute (.Name x pos') "extend" apos) [e] [] pos) (eMut extendM i [me]) := PE.imp (hx mt_extend) fun σ H Q q => mut_use (r := rExtend) ext_l ext_r q
/-! ### tuple * int -/
def mulT : D → D → R Rv
  | .tup a, .int k => if a ≠ [] ∧ 2 ≤ k ∧ k ≤ 1000 ∧ a.length * k.toNat ≤ 1000 then .ok (.tup (List.replicate k.toNat a).flatten, false) else .no
  | _, _ => .no
theorem n2_mulT : N2 mulT := fun x y d z => by
  unfold mulT at z
  split at z
  · split at z <;> cases z
  · cases z
/-! ### repr of plain data, of {} -/
/-! ### t[:0:-1] -/
def pickU {α : Type} (xs : List α) : List α := (List.range (Builtin.Slice.slicePlaces (Builtin.Slice.sliceAdjust none (some 0) (-1) (xs.length : Int)).1 (Builtin.Slice.sliceAdjust none (some 0) (-1) (xs.length : Int)).2 (-1))).filterMap fun (m : Nat) => xs[((Builtin.Slice.sliceAdjust none (some 0) (-1) (xs.length : Int)).1 + (m : Int) * (-1)).toNat]?
theorem adj_u (n : Nat) : Builtin.Slice.sliceAdjust none (some 0) (-1) (n : Int) = ((n : Int) - 1, min 0 ((n : Int) - 1)) := rfl
theorem places_u (n : Nat) : Builtin.Slice.slicePlaces ((n : Int) - 1) (min 0 ((n : Int) - 1)) (-1) = n - 1 := by
  unfold Builtin.Slice.slicePlaces
  have h : ¬ ((-1 : Int) > 0) := by decide
  rw [if_neg h]
  split
  · have : (-(-1) : Int) = 1 := rfl
    rw [this, Int.ediv_one]
    omega
  · show 0 = n - 1
    omega
theorem fm_rev {α : Type} (xs : List α) : ∀ k : Nat, k + 1 ≤ xs.length → ((List.range k).filterMap fun (m : Nat) => xs[(((xs.length : Int) - 1) + (m : Int) * (-1)).toNat]?) = (xs.drop (xs.length - k)).reverse
  | 0, _ => by simp
  | k + 1, h => by
    rw [List.range_succ, List.filterMap_append, fm_rev xs k (by omega)]
    have e : ((((xs.length : Int) - 1) + (k : Int) * (-1)).toNat) = xs.length - (k + 1) := by omega
    have hl : xs.length - (k + 1) < xs.length := by omega
    have e2 : xs.drop (xs.length - (k + 1)) = xs[xs.length - (k + 1)] :: xs.drop (xs.length - k) := by
      rw [List.drop_eq_getElem_cons hl]
      have : xs.length - (k + 1) + 1 = xs.length - k := by omega
      rw [this]
    rw [e2, List.reverse_cons]
    congr 1
    simp only [List.filterMap_cons, List.filterMap_nil, e, List.getElem?_eq_getElem hl]
theorem pickU_eq {α : Type} (xs : List α) : pickU xs = (xs.drop 1).reverse := by
  unfold pickU
  rw [adj_u]
  show ((List.range (Builtin.Slice.slicePlaces ((xs.length : Int) - 1) (min 0 ((xs.length : Int) - 1)) (-1))).filterMap fun (m : Nat) => xs[(((xs.length : Int) - 1) + (m : Int) * (-1)).toNat]?) = _
  rw [places_u]
  cases xs with
  | nil => rfl
  | cons x xs =>
    have := fm_rev (x :: xs) xs.length (by simp)
    rw [List.length_cons, Nat.add_sub_cancel]
    rw [List.length_cons] at this
    rw [this]
    have : xs.length + 1 - xs.length = 1 := by omega
    rw [this]
def tailRD : D → R Rv
  | .tup xs => if xs.length ≤ 1000 then .ok (.tup (xs.drop 1).reverse, false) else .no
  | _ => .no
section
variable {prog : Program} {w : World} {A : Around} {E : Value → Shared → Prop} {s : Shared}
theorem applied_su {sl : Addr} {vl vu vs : Value} {lo hi : Option Int} {st : Int} {n : Nat} {Q : Int × Int × Nat → Shared → Prop} (hs : s.heap.IsSliceOf sl vl vu vs) (pl : IsPart vl lo) (pu : IsPart vu hi) (ps : IsPart vs (some st)) (h0 : st ≠ 0)
    (h : Q ((Builtin.Slice.sliceAdjust lo hi st (n : Int)).1, st, Builtin.Slice.slicePlaces (Builtin.Slice.sliceAdjust lo hi st (n : Int)).1 (Builtin.Slice.sliceAdjust lo hi st (n : Int)).2 st) s) : wpAny (model prog w) A (Builtin.Slice.sliceApplied (.ref sl) (pure (n : Int))) Q E s := by
  obtain ⟨os, hos, hcs, hds⟩ := id hs
  unfold Builtin.Slice.sliceApplied Builtin.Slice.sliceFields
  refine wpAny_bind (wpAny_bind (wpAny_field hos hds (x := vl) rfl (wpAny_bind (wpAny_field hos hds (x := vu) rfl (wpAny_bind (wpAny_field hos hds (x := vs) rfl (wpAny_pure ?_)))))))
  refine wpAny_bind (HT.slicePart_ ps ?_)
  show wpAny _ _ (if (st == 0) = true then _ else _) _ _ s
  rw [if_neg (by intro z; exact h0 (eq_of_beq z))]
  refine wpAny_bind (HT.slicePart_ pl (wpAny_bind (HT.slicePart_ pu (wpAny_bind (wpAny_pure ?_)))))
  exact wpAny_pure h
theorem getItem_stepU {t sl : Addr} {items : Array Value} {vl vu vs : Value} {Q : Value → Shared → Prop} (ht : IsTup s.heap t items) (hs : s.heap.IsSliceOf sl vl vu vs) (pl : IsPart vl none) (pu : IsPart vu (some 0)) (ps : IsPart vs (some (-1)))
    (h : Q (.ref s.heap.objs.size) { s with heap := s.heap.push { cls := .type "tuple", data := .seq (pickU items.toList).toArray } }) (hz : (pickU items.toList).length ≤ sizeLine) : wpAny (model prog w) A (getItem (.ref t) (.ref sl)) Q E s := by
  have hsz : sizeOk (.seq (pickU items.toList).toArray) := by show (pickU items.toList).toArray.size ≤ sizeLine; rw [List.size_toArray]; exact hz
  obtain ⟨os, hos, hcs, hds⟩ := id hs
  have hTs : s.TypeIs (.ref sl) "slice" := ⟨os, hos, hcs⟩
  unfold getItem
  try with_reducible refine wpAny_holding ?_
  first | refine wpAny_bind (wpAny_pure ?_) | skip
  refine wpAny_bind (wpAny_sequenceKey ht.typeIs (by decide) ?_)
  refine wpAny_bind (wpAny_callSpecial?_slot (name := Str.ofString "__getitem__") ht.typeIs PyProof.Rows.slot_tuple_getitem (wpAny_call_entry PyProof.Rows.slot_tuple_getitem ht.typeIs PyProof.Rows.entry_tuple_getitem ?_ (PyProof.Rows.args_tuple_getitem _ _)))
  show wpAny _ _ (Builtin.Tuple.tupleItemsOf (.ref t) >>= _) _ _ s
  refine wpAny_bind (PyProof.Rows.tupleItemsOf_ ht ?_)
  refine wpAny_bind (wpAny_typeOf hTs ?_)
  rw [if_pos (by decide)]
  refine wpAny_bind (applied_su (n := items.size) hs pl pu ps (by decide) ?_)
  have hno : ∀ (a : Int) (k : Nat), ¬ ((a == 0 && (-1 : Int) == 1 && k == items.size) = true) := fun a k q => by
    rw [Bool.and_eq_true, Bool.and_eq_true] at q
    exact absurd q.1.2 (by decide)
  show wpAny _ _ (if ((Builtin.Slice.sliceAdjust none (some 0) (-1) (items.size : Int)).1 == 0 && (-1 : Int) == 1 && Builtin.Slice.slicePlaces (Builtin.Slice.sliceAdjust none (some 0) (-1) (items.size : Int)).1 (Builtin.Slice.sliceAdjust none (some 0) (-1) (items.size : Int)).2 (-1) == items.size) = true then _ else _) _ _ s
  rw [if_neg (hno _ _)]
  have e : ((List.range (Builtin.Slice.slicePlaces (Builtin.Slice.sliceAdjust none (some 0) (-1) (items.size : Int)).1 (Builtin.Slice.sliceAdjust none (some 0) (-1) (items.size : Int)).2 (-1))).filterMap fun (m : Nat) => items[((Builtin.Slice.sliceAdjust none (some 0) (-1) (items.size : Int)).1 + (m : Int) * (-1)).toNat]?) = pickU items.toList := by
    unfold pickU
    simp
  rw [e]
  first
    | exact wpAny_bind (m := Builtin.Tuple.tupleExact _) (wpAny_newObj_type (wpAny_pure ⟨_, rfl, wpAny_pure h⟩) hsz)
    | exact wpAny_bind (m := Builtin.Tuple.tupleExact _) (wpAny_newObj_type (wpAny_bind (wpAny_pure (wpAny_pure ⟨_, rfl, wpAny_pure h⟩))) hsz)
    | exact wpAny_bind (wpAny_bind (m := Builtin.Tuple.tupleExact _) (wpAny_newObj_type (wpAny_pure (wpAny_pure ⟨_, rfl, wpAny_pure h⟩)) hsz))
    | exact wpAny_bind (wpAny_bind (m := Builtin.Tuple.tupleExact _) (wpAny_newObj_type (wpAny_pure ⟨_, rfl, wpAny_pure h⟩) hsz))
end
def tStepU (K : PySem.W.Frag) (te : TE) : TE := fun σ H Q => te σ H fun x H1 => ∃ a xs, x = .ref a ∧ SqT K H1 a xs ∧ (pickU xs).length ≤ sizeLine ∧ ∀ p o, o.dict = none → H1 p = none → Q (.ref p) (upd H1 p (.frz o (.tup (pickU xs))))
theorem pe_stepU {e up st : Expr} {te : TE} {tu ts : TO} {p3 pos : Pos} (he : PE X e te) (hu : PO X (some up) tu) (ku : ∀ σ H (Q : Option Int → Hp → Prop), Q (some 0) H → tu σ H Q) (hs : PO X (some st) ts) (ks : ∀ σ H (Q : Option Int → Hp → Prop), Q (some (-1)) H → ts σ H Q) : PE X (.Subscript e (.Slice none (some up) (some st) p3) pos) (tStepU X.K te) := ⟨fun pins s σ H Q I h => by
  refine Subscript_ (thn (he.run pins s σ H _ I h) fun v s1 ⟨x, H1, I1, r1, q1⟩ => ?_)
  obtain ⟨a, xs, ex, hx, hz, q⟩ := q1
  subst ex
  cases r1
  refine wpAny_Slice (thn (po_none.run pins s1 σ H1 (fun o H2 => o = none ∧ H2 = H1) I1 ⟨rfl, rfl⟩) fun vl s2 ⟨l, H2, I2, pl, el, e2⟩ => ?_)
  subst el e2
  refine thn (hu.run pins s2 σ H2 (fun o H3 => o = some 0 ∧ H3 = H2) I2 (ku _ _ _ ⟨rfl, rfl⟩)) fun vu s3 ⟨u, H3, I3, pu, eu, e3⟩ => ?_
  subst eu e3
  refine thn (hs.run pins s3 σ H3 (fun o H4 => o = some (-1) ∧ H4 = H3) I3 (ks _ _ _ ⟨rfl, rfl⟩)) fun vs s4 ⟨o, H4, I4, ps, eo, e4⟩ => ?_
  subst eo e4
  have I5 : Inv X pins σ H4 { s4 with heap := s4.heap.push { cls := .type "slice", data := .fields #[vl, vu, vs] } } := I4.kept (t' := s4.toks) fun b ob q => Heap.get?_push_of_some _ q
  obtain ⟨its, r, ht, hlen⟩ := I5.tuple hx
  have e5 : its.length = xs.length := r.length.symm
  have pr : Vals (pickU xs) (pickU its) := by
    unfold pickU
    rw [e5]
    exact vals_fm r _ _
  refine tail_any (ops := [.ref a, .ref s4.heap.objs.size]) ht.typeIs PyProof.Rows.slot_tuple_getitem.lookup ?_ (by with_unfolding_all rfl)
  refine getItem_stepU ht (Heap.IsSliceOf.new _ vl vu vs) pl pu ps ?_ (by rw [List.toList_toArray, ← pr.length]; exact hz)
  rw [List.toList_toArray]
  refine ⟨.ref _, _, I5.laid (t' := s4.toks) (o := .frz { cls := .type "tuple", data := .seq (pickU its).toArray } (.tup (pickU xs))) (fun b ob q => Heap.get?_push_of_some _ q) (Nat.le_refl _) ?_, rfl, q _ _ rfl (I5.hok.fresh (Nat.le_refl _))⟩
  exact ⟨Heap.get?_push_size _ rfl, hz, _, pr, IsTup.new _ _⟩⟩
theorem stepU_use {K : PySem.W.Frag} {ma : Ev} {σ : L2.St} {H : Hp} {Q : VK} (h : liftE K A (eUn tailRD ma) σ H Q) : tStepU K (liftE K A ma) σ H Q := by
  obtain ⟨G, ρ, r, ρ', s, e, k⟩ := h
  obtain ⟨⟨d1, ρ1⟩, e1, e⟩ := bind_ok e
  obtain ⟨r', e3, e⟩ := bind_ok e
  cases e
  refine use_val s e1 fun x G1 H1 n1 r1 => ?_
  unfold tailRD at e3
  split at e3
  · rename_i ds
    split at e3
    · rename_i hl
      cases e3
      obtain ⟨p, vs, rfl, h1, q1⟩ := r1.sqT n1.st.sub
      have el : vs.length = ds.length := q1.len
      have rr : Reps K A G1 (pickU vs) (ds.drop 1).reverse := by rw [← pickU_eq]; unfold pickU; rw [el]; exact reps_fm q1 _ _
      have hlen : (pickU vs).length ≤ 1000 := by rw [pickU_eq, List.length_reverse, List.length_drop]; omega
      refine ⟨p, vs, rfl, h1, by rw [sizeLine_eq]; omega, fun p o ho n => ?_⟩
      obtain ⟨n0, rt⟩ := new_tup (K := K) (A := A) n1.st.sub n ho rr
      exact end_of n1 k _ _ _ n0 (RepR.of rt)
    · cases e3
  · cases e3
theorem pd_tailR {e up st : Expr} {ma : Ev} {tu ts : TO} {p3 pos : Pos} (he : PD A X e ma) (hu : PO X (some up) tu) (ku : ∀ σ H (Q : Option Int → Hp → Prop), Q (some 0) H → tu σ H Q) (hs : PO X (some st) ts) (ks : ∀ σ H (Q : Option Int → Hp → Prop), Q (some (-1)) H → ts σ H Q) : PD A X (.Subscript e (.Slice none (some up) (some st) p3) pos) (eUn tailRD ma) := PE.imp (pe_stepU he hu ku hs ks) fun _ _ _ => stepU_use
/-! ### list.index of a text -/
def isSD : D → Bool
  | .str _ => true
  | _ => false
end
/-! ### the def that tells an error: an old list, too -/
section
variable {P : Program} {w : World} {K : PySem.W.Frag} {mg : Str → Option Value} {base : Heap} {x qual e : Str} {f : Addr} {fd : FuncData} {N : List Str} {k n : Nat} {A : CT} {mb : Nat → D → Sv} {l : List Nat}
end
end DY
/-! ### str of an own object: only where its own answer is a text -/
namespace DY
open PySem L2 PySem.Spec PyProof.Rows
def strG : R Rv → R Rv
  | .ok (.str l, false) => .ok (.str l, false)
  | _ => .no
theorem strG_e {l : List Nat} : strG (.ok (.str l, false)) = .ok (.str l, false) := rfl
theorem strG_ok {m : R Rv} {r : Rv} (h : strG m = .ok r) : ∃ l, m = .ok (.str l, false) ∧ r = (.str l, false) := by
  unfold strG at h
  split at h
  · cases h; exact ⟨_, rfl, rfl⟩
  · cases h
section
variable [Tb] {X : Cx} {A : CT} {CX : CXT} {k : Nat} {f : Addr} {fd : FuncData} {ps : List Str} {E : XK}
theorem o_strG {F : Fn} {c : Nat} (o : SL.OwnOp X.K (A.ad c) f "__str__") (Fo : FnOk X.prog X.w X.K X.mg X.base CX k f fd ps (spF X.K A F 1)) (hr : Room (k + 2) X.A) (hb : Binds X.K fd ps []) (hx : Passes CX X E) :
    CallR X (.type "str") (fun xs H Q => ∃ x, xs = [x] ∧ rDu X.K A (sel1 (isC c) (fun x => strG (F [x])) no1) x H Q) := by
  intro pins s σ H xs us Q I r0 h
  obtain ⟨x, rfl, G, d1, r, sb, r1, e, k⟩ := h
  unfold sel1 at e
  by_cases q : isC c d1 = true
  · rw [if_pos q] at e
    obtain ⟨l, e', rfl⟩ := strG_ok (show strG (F [d1]) = .ok r from e)
    obtain ⟨f1, rfl⟩ := isC_ok q
    cases id r1 with
    | ins hh =>
      refine SL.call_strOwn o Fo hr hb hx pins s σ H _ us Q I r0 ⟨_, _, _, rfl, sb.ins hh, rfl, G, _, _, sb, .cons r1 .nil, e', fun v G' H' n0 rn => ?_⟩
      have rn0 := rn
      cases (show Rep X.K A G' v (.str l) from rn)
      exact ⟨_, rfl, k _ G' H' n0 rn0⟩
  · rw [if_neg q] at e; cases e
end
end DY

set_option Elab.async false
set_option linter.all false
set_option maxRecDepth 100000
set_option maxHeartbeats 4000000
/-! ### text.partition(sign), text.split(sign), int(text) -/
namespace DY
open PySem L2 PySem.Spec PyProof.Rows
variable [Tb]
/-- what stands ahead of a sign, and behind it -/
def bef (c : Nat) : List Nat → List Nat
  | [] => []
  | x :: xs => if x = c then [] else x :: bef c xs
def beh (c : Nat) : List Nat → List Nat
  | [] => []
  | x :: xs => if x = c then xs else beh c xs
theorem bef_beh {c : Nat} : ∀ {a : List Nat}, c ∈ a → a = bef c a ++ c :: beh c a
  | x :: xs, h => by
    unfold bef beh
    by_cases e : x = c
    · rw [if_pos e, if_pos e, e]; rfl
    · rw [if_neg e, if_neg e, List.cons_append, ← bef_beh (a := xs) (by rcases List.mem_cons.mp h with h | h; exact absurd h.symm e; exact h)]
theorem bef_no {c : Nat} : ∀ a : List Nat, c ∉ bef c a
  | [] => by simp [bef]
  | x :: xs => by
    unfold bef
    split
    · simp
    · rename_i h; simp; exact ⟨fun e => h e.symm, bef_no xs⟩
def partD : D → D → R Rv
  | .str a, .str [c] => if a.length ≤ 100000 then (if c ∈ a then .ok (.kt [.str (bef c a), .str [c], .str (beh c a)], false) else .ok (.kt [.str a, .str [], .str []], false)) else .no
  | _, _ => .no
theorem tl_S (a : List Nat) : TL.tl (S a) = a := by show a.toArray.toList = a; simp
theorem part_yes {c : Nat} {a : List Nat} (h : c ∈ a) : Txt.partition (S a) (S [c]) = (S (bef c a), S [c], S (beh c a)) := by
  have e : S a = S (bef c a) ++ S [c] ++ S (beh c a) := by
    conv => lhs; rw [bef_beh h]
    show (⟨(bef c a ++ c :: beh c a).toArray⟩ : Str) = ⟨(bef c a).toArray ++ [c].toArray ++ (beh c a).toArray⟩
    congr 1
    simp
  rw [e]
  exact TL.partition_app (s := c) (S := []) (tl_S _) (by rw [tl_S]; exact bef_no a)
theorem part_no {c : Nat} {a : List Nat} (h : c ∉ a) : Txt.partition (S a) (S [c]) = (S a, S [], S []) :=
  TL.partition_none (s := c) (S := []) (tl_S _) (by rw [tl_S]; exact h)
section
variable {X : Cx} {A : CT} {o e : Expr} {mo me : Ev} {apos pos : Pos}
theorem reps3 {K : PySem.W.Frag} {G : Hp} (a b c : List Nat) : Reps K A G [V.str (S a), V.str (S b), V.str (S c)] [D.str a, D.str b, D.str c] := .cons (.str _) (.cons (.str _) (.cons (.str _) .nil))
theorem pd_partition (ho : PD A X o mo) (he : PD A X e me)
    (hx : ∀ {to te : TE}, PE X o to → PE X e te → PE X (.Call (.Attribute o "partition" apos) [e] [] pos) (tM1 (fun x xs H Q => ∃ a b, x = .str a ∧ xs = [.str b] ∧ (b.length == 0) = false ∧ a.length ≤ sizeLine ∧
      ∀ p, H p = none → Q (.ref p) (upd H p (.tup [.str (Txt.partition a b).1, .str (Txt.partition a b).2.1, .str (Txt.partition a b).2.2]))) to te)) :
    PD A X (.Call (.Attribute o "partition" apos) [e] [] pos) (eBin partD mo me) := PE.imp (hx ho he) fun σ H Q q => by
  obtain ⟨G, ρ, r, ρ', s, e, k⟩ := q
  obtain ⟨⟨d1, ρ1⟩, e1, ea⟩ := bind_ok e
  obtain ⟨⟨d2, ρ2⟩, e2, eb⟩ := bind_ok ea
  obtain ⟨r', e3, ec⟩ := bind_ok eb
  clear e ea eb
  cases ec
  unfold partD at e3
  split at e3
  · rename_i a c
    split at e3
    · rename_i hl
      refine use_val s e1 fun v G1 H1 n1 r1 => ?_
      cases r1
      refine ⟨⟨_, rfl⟩, use_val n1.st e2 fun w G2 H2 n2 r2 => ?_⟩
      cases r2
      refine ⟨_, _, rfl, rfl, rfl, by show a.toArray.size ≤ _; rw [List.size_toArray, sizeLine_eq]; omega, fun p hp => ?_⟩
      split at e3
      · rename_i hc
        cases e3
        rw [part_yes hc]
        obtain ⟨n0, rr⟩ := new_key (K := X.K) (A := A) n2.st.sub hp (reps3 (bef c a) [c] (beh c a))
        exact end_of (n1.trans n2) k _ _ _ n0 (RepR.of rr)
      · rename_i hc
        cases e3
        rw [part_no hc]
        obtain ⟨n0, rr⟩ := new_key (K := X.K) (A := A) n2.st.sub hp (reps3 a [] [])
        exact end_of (n1.trans n2) k _ _ _ n0 (RepR.of rr)
    · cases e3
  · cases e3
/-! int(text) -/
def valN : List Nat → Nat := NumText.digitsVal
def isDg (l : List Nat) : Bool := l.all (fun c => decide (48 ≤ c) && decide (c ≤ 57)) && !l.isEmpty
/-- the number that a text writes, a sign ahead of it or none -/
def numT : List Nat → Option Int
  | 45 :: l => if isDg l then some (-(valN l : Int)) else none
  | l => if isDg l then some (valN l : Int) else none
def intSD : List D → R Rv
  | [.str a] => if a.length ≤ 600 then (match numT a with | some n => int_ n | none => .no) else .no
  | ds => intD ds
theorem allDg {l : List Nat} (h : isDg l = true) : NumText.AllDigits l ∧ l ≠ [] := by
  unfold isDg at h
  rw [Bool.and_eq_true] at h
  refine ⟨fun c hc => ?_, fun e => by subst e; simp at h⟩
  have := List.all_eq_true.mp h.1 c hc
  simpa using this
theorem numT_ok {a : List Nat} {n : Int} (hl : a.length ≤ 600) (h : numT a = some n) : PySem.intText? (S a) = some n := by
  have sz : (S a).length ≤ 4300 := by show a.toArray.size ≤ _; simp; omega
  unfold numT at h
  split at h
  · rename_i l
    split at h
    · rename_i hd
      cases h
      obtain ⟨h1, h2⟩ := allDg hd
      exact PySem.intText_neg (cs := l) (by show (45 :: l).toArray.toList = _; simp) h1 h2 sz
    · cases h
  · split at h
    · rename_i hd
      cases h
      obtain ⟨h1, h2⟩ := allDg hd
      have e : (S a).cps.toList = a := by show a.toArray.toList = _; simp
      have := PySem.intText_digits (x := S a) (by rw [e]; exact h1) (by rw [e]; exact h2) sz
      rw [e] at this
      exact this
    · cases h
theorem o_intS : CallR X (.type "int") (rDn X.K A intSD) := by
  intro pins s σ H xs us Q I r h
  obtain ⟨G, ds, r0, sb, rs, e, k⟩ := h
  by_cases z : ∃ ys, ds = [.str ys]
  · obtain ⟨ys, rfl⟩ := z
    obtain ⟨v1, rfl, r1⟩ := rs.inv1
    cases r1
    unfold intSD at e
    dsimp only at e
    split at e
    · rename_i hl
      split at e
      · rename_i n hn
        cases e
        exact call_int_str pins s σ H _ us Q I r ⟨_, _, rfl, numT_ok hl hn, by show ys.toArray.size ≤ _; simp; omega, same_end sb (.int _) k⟩
      · cases e
    · cases e
  · have e2 : intSD ds = intD ds := by
      unfold intSD
      split
      · exact absurd ⟨_, rfl⟩ z
      · rfl
    rw [e2] at e
    exact o_int pins s σ H xs us Q I r ⟨G, ds, r0, sb, rs, e, k⟩
end
end DY

set_option linter.all false
/-! LP12: least sums of rows of edges, reckoned by letting each place be between -/
namespace FW
abbrev Mt := Nat → Nat → Option Int
/-! what is kept by all lengths -/
/-! one place between -/
/-! lengths that go with what is told -/
section
variable {w : Nat} {es : List Ed}
end
/-! sizes -/
end FW

set_option Elab.async false
set_option linter.all false
set_option maxRecDepth 100000
set_option maxHeartbeats 4000000
/-! ### lists within a list, written at two places: least sums of ways -/
namespace DY
open PySem L2 PySem.Spec PyProof.Rows
variable [Tb]
section
variable {K : PySem.W.Frag} {A : CT} {G G' G0 G1 H H' H0 H1 H2 : Hp} {σ : L2.St} {ρ ρ' : Env} {p : Addr} {rs : List Addr} {M : FW.Mt} {n l : Nat}
/-! loops by hand -/
theorem nx_nx0 (no : noOws ρ = true) (n : Nx K A σ G H ρ G1 H1 ρ') : Nx0 G H G1 H1 := ⟨n.ext.weak fun q ⟨i, z⟩ => noOws_own no i q z, n.st.sub⟩
theorem for_hand {it : Iv} {g : TG} {tb : TS} {D : Ends} {ds : List DY.D} (st : St K A σ G H ρ) (no : noOws ρ = true) (e : it ρ = .ok (ds, ρ')) (I : Nat → L2.St → Hp → Hp → Prop)
    (h0 : ∀ G1 H1, Nx0 G H G1 H1 → I 0 σ G1 H1) (hk : ∀ i σ G H, I i σ G H → Sub G H)
    (hs : ∀ i σ G0 H0 G1 H1 x d, I i σ G0 H0 → Nx0 G0 H0 G1 H1 → ds[i]? = some d → Rep K A G1 x d → g x σ H1 fun σ2 H2 => tb { D with nx := fun σ' H' => ∃ G', L2.Same G0 G' ∧ I (i + 1) σ' G' H', ct := fun σ' H' => ∃ G', L2.Same G0 G' ∧ I (i + 1) σ' G' H', bk := D.nx } σ2 H2)
    (he : ∀ σ G1 H1, L2.Same G G1 → I ds.length σ G1 H1 → D.nx σ H1) : tFor (liftI K A it) g tb D σ H := by
  refine ⟨G, ρ, ds, ρ', st, e, fun J G1 H1 nn wd => ?_⟩
  have n0 := nx_nx0 no nn
  obtain ⟨Gd, Y, w, hg, hy⟩ := wd
  refine ⟨fun i m σ H => m + i = ds.length ∧ ∃ G2, L2.Same G1 G2 ∧ I i σ G2 H, ⟨ds.length, rfl, G1, fun _ _ h => h, h0 G1 H1 n0⟩, fun i m σ2 H2 ⟨hmi, G2, sg, hI⟩ => ?_⟩
  by_cases q : i < ds.length
  · right
    refine ⟨w.goes i H2 q (hg G2 H2 ⟨sg, hk _ _ _ _ hI⟩), _, fun σ' H' (h : ∃ G', L2.Same G2 G' ∧ I (i + 1) σ' G' H') => ?_, fun x H' y => ?_⟩
    · obtain ⟨G', s', hI'⟩ := h
      exact ⟨m - 1, by omega, by omega, G', fun a o z => s' a o (sg a o z), hI'⟩
    · obtain ⟨G3, d, n3, hd, rx⟩ := hy i G2 H2 x H' q ⟨sg, hk _ _ _ _ hI⟩ (w.yields i H2 x H' q (hg G2 H2 ⟨sg, hk _ _ _ _ hI⟩) y)
      exact hs i σ2 G2 H2 G3 H' x d hI n3 hd rx
  · left
    have e1 : i = ds.length := by omega
    subst e1
    exact ⟨w.stops H2 (hg G2 H2 ⟨sg, hk _ _ _ _ hI⟩), he σ2 G2 H2 (fun a o z => sg a o (n0.ext.gs a o z)) hI⟩
/-! states by slots -/
theorem st_by (sb : Sub G H) (h : SL2 K A G H σ ρ) (no : noOws ρ = true) : St K A σ G H ρ := ⟨sb, h.len, h.at_, fun i j q h => absurd h (noOws_own no i q)⟩
end
section
variable {K : PySem.W.Frag} {A : CT} {G G' G0 G1 H H' H0 H1 H2 : Hp} {σ : L2.St} {ρ ρ' : Env} {p : Addr} {rs : List Addr} {M : FW.Mt} {n l w : Nat} {it1 it2 it3 : Iv} {inn t1 t2 e2 t3 : Ev}
/-! the parts of a turn -/
/-! the loops -/
end
/-! ### the contract -/
end DY

set_option Elab.async false
set_option linter.all false
set_option maxRecDepth 100000
set_option maxHeartbeats 4000000
/-! ### words in round brackets: a list of lists of which the last is written -/
namespace DY
open PySem L2 PySem.Spec PyProof.Rows
variable [Tb]
/-- the lists, the last one first, and the word; none where a bracket is shut too early -/
abbrev NSt := List (List D) × List Nat
def addW (w : List Nat) : List (List D) → List (List D)
  | [] => []
  | t :: r => (if w = [] then t else t ++ [.str w]) :: r
def stepN : NSt → Nat → Option NSt
  | (st, w), c =>
    if c = 40 then some ([] :: addW w st, [])
    else if c = 41 then match addW w st with
      | t :: u :: r => some ((u ++ [.tup t]) :: r, [])
      | _ => none
    else if c = 32 then some (addW w st, [])
    else some (st, w ++ [c])
theorem stepN_40 {st : List (List D)} {w : List Nat} {c : Nat} (h : c = 40) : stepN (st, w) c = some ([] :: addW w st, []) := by
  unfold stepN; dsimp only; rw [if_pos h]
theorem stepN_41 {st : List (List D)} {w : List Nat} {c : Nat} (h : c = 41) : stepN (st, w) c = match addW w st with | t :: u :: r => some ((u ++ [.tup t]) :: r, []) | _ => none := by
  unfold stepN; dsimp only; rw [if_neg (by omega), if_pos h]
theorem stepN_32 {st : List (List D)} {w : List Nat} {c : Nat} (h : c = 32) : stepN (st, w) c = some (addW w st, []) := by
  unfold stepN; dsimp only; rw [if_neg (by omega), if_neg (by omega), if_pos h]
theorem stepN_w {st : List (List D)} {w : List Nat} {c : Nat} (h : c ≠ 40) (h1 : c ≠ 41) (h2 : c ≠ 32) : stepN (st, w) c = some (st, w ++ [c]) := by
  unfold stepN; dsimp only; rw [if_neg h, if_neg h1, if_neg h2]
def goN : List Nat → NSt → Option NSt
  | [], s => some s
  | c :: cs, s => match stepN s c with
    | some s' => goN cs s'
    | none => none
def endN : NSt → D
  | ([[.tup ds]], []) => .tup ds
  | _ => .non
def nestD (s : List Nat) : D := match goN s ([[]], []) with
  | some st => endN st
  | none => .non
def nestF : Fn
  | [.str s] => if s.length ≤ 2000 then .ok (nestD s, false) else .no
  | _ => .no
theorem nestF_len {ds : List D} {r : Rv} (h : nestF ds = .ok r) : ds.length = 1 := by
  unfold nestF at h
  split at h
  · rfl
  · cases h
theorem nestF_ok {ds : List D} {r : Rv} (h : nestF ds = .ok r) : ∃ s, ds = [.str s] ∧ s.length ≤ 2000 ∧ r = (nestD s, false) := by
  unfold nestF at h
  split at h
  · split at h
    · cases h; exact ⟨_, rfl, by assumption, rfl⟩
    · cases h
  · cases h
/-- all is short, only words and tuples stand in the lists -/
structure ShN (n : Nat) (s : NSt) : Prop where
  one : s.1 ≠ []
  many : s.1.length ≤ n + 1
  each : ∀ l ∈ s.1, l.length ≤ n
  kind : ∀ l ∈ s.1, ∀ d ∈ l, (∃ w, d = .str w) ∨ ∃ ds, d = .tup ds
  word : s.2.length ≤ n
theorem addW_ne {w : List Nat} {st : List (List D)} (h : st ≠ []) : addW w st ≠ [] := by
  cases st with
  | nil => exact absurd rfl h
  | cons t r => exact fun z => nomatch z
theorem addW_sh {n : Nat} {s : NSt} (h : ShN n s) : ShN (n + 1) (addW s.2 s.1, s.2) := by
  obtain ⟨st, w⟩ := s
  cases st with
  | nil => exact absurd rfl h.one
  | cons t r =>
    have h3 : t.length ≤ n := h.each t (List.mem_cons_self ..)
    have hm : r.length + 1 ≤ n + 1 := h.many
    have hk : ∀ d ∈ t, (∃ w, d = D.str w) ∨ ∃ ds, d = D.tup ds := h.kind t (List.mem_cons_self ..)
    refine ⟨addW_ne h.one, ?_, fun l hl => ?_, fun l hl d hd => ?_, Nat.le_succ_of_le h.word⟩
    · show r.length + 1 ≤ _; omega
    · rcases List.mem_cons.mp (show l ∈ (if w = [] then t else t ++ [.str w]) :: r from hl) with e | e
      · subst e
        split
        · omega
        · rw [List.length_append]; simp only [List.length_cons, List.length_nil]; omega
      · exact Nat.le_succ_of_le (h.each l (List.mem_cons_of_mem _ e))
    · rcases List.mem_cons.mp (show l ∈ (if w = [] then t else t ++ [.str w]) :: r from hl) with e | e
      · subst e
        split at hd
        · exact hk d hd
        · rcases List.mem_append.mp hd with z | z
          · exact hk d z
          · exact .inl ⟨w, List.mem_singleton.mp z⟩
      · exact h.kind l (List.mem_cons_of_mem _ e) d hd
theorem addW_len (w : List Nat) : ∀ st : List (List D), (addW w st).length = st.length
  | [] => rfl
  | t :: r => rfl
theorem stepN_sh {n : Nat} {s s' : NSt} {c : Nat} (h : ShN n s) (e : stepN s c = some s') : ShN (n + 1) s' := by
  obtain ⟨st, w⟩ := s
  have a := addW_sh h
  have am : (addW w st).length ≤ n + 1 := by rw [addW_len]; exact h.many
  unfold stepN at e
  dsimp only at e
  split at e
  · cases e
    exact ⟨(fun z => nomatch z), (by simp only [List.length_cons]; omega), fun l hl => by rcases List.mem_cons.mp hl with z | z; (subst z; exact Nat.zero_le _); exact a.each l z, fun l hl d hd => by rcases List.mem_cons.mp hl with z | z; (subst z; cases hd); exact a.kind l z d hd, Nat.zero_le _⟩
  · split at e
    · split at e
      · rename_i t u r hh
        cases e
        have am' := am
        rw [hh] at am'
        have ae : ∀ l ∈ t :: u :: r, l.length ≤ n + 1 := fun l hl => a.each l (by show l ∈ addW w st; rw [hh]; exact hl)
        have ak : ∀ l ∈ t :: u :: r, ∀ d ∈ l, (∃ w, d = .str w) ∨ ∃ ds, d = .tup ds := fun l hl => a.kind l (by show l ∈ addW w st; rw [hh]; exact hl)
        have hu : u.length ≤ n := by
          cases st with
          | nil => exact absurd rfl h.one
          | cons x y =>
            have : (addW w (x :: y)).tail = y := rfl
            rw [hh] at this
            exact h.each u (by rw [← show u :: r = y from this]; exact List.mem_cons_of_mem _ (List.mem_cons_self ..))
        refine ⟨(fun z => nomatch z), (by simp only [List.length_cons] at *; omega), fun l hl => ?_, fun l hl d hd => ?_, Nat.zero_le _⟩
        · rcases List.mem_cons.mp hl with z | z
          · subst z; rw [List.length_append]; simp only [List.length_cons, List.length_nil]; omega
          · exact ae l (List.mem_cons_of_mem _ (List.mem_cons_of_mem _ z))
        · rcases List.mem_cons.mp hl with z | z
          · subst z
            rcases List.mem_append.mp hd with y | y
            · exact ak u (List.mem_cons_of_mem _ (List.mem_cons_self ..)) d y
            · exact .inr ⟨t, List.mem_singleton.mp y⟩
          · exact ak l (List.mem_cons_of_mem _ (List.mem_cons_of_mem _ z)) d hd
      · cases e
    · split at e
      · cases e
        exact ⟨a.one, by simp only; omega, a.each, a.kind, Nat.zero_le _⟩
      · cases e
        exact ⟨h.one, by have := h.many; simp only at *; omega, fun l hl => Nat.le_succ_of_le (h.each l hl), h.kind, by have := h.word; simp only [List.length_append, List.length_cons, List.length_nil] at *; omega⟩
section
variable {K : PySem.W.Frag} {A : CT} {G G' G0 G1 H H' H0 H1 H2 : Hp} {σ : L2.St} {ρ ρ' : Env} {p r : Addr} {rs : List Addr} {dss : List (List D)}
/-- the inner lists, the last one first -/
def Inn (K : PySem.W.Frag) (A : CT) (G H : Hp) : List Addr → List (List D) → Prop
  | [], [] => True
  | r :: rs, d :: ds => (∃ vs, H r = some (.lst vs) ∧ Reps K A G vs d) ∧ Inn K A G H rs ds
  | _, _ => False
theorem Inn.len : ∀ {rs : List Addr} {dss : List (List D)}, Inn K A G H rs dss → rs.length = dss.length
  | [], [], _ => rfl
  | _ :: _, _ :: _, h => congrArg Nat.succ (Inn.len h.2)
  | [], _ :: _, h => h.elim
  | _ :: _, [], h => h.elim
theorem Inn.mono (g : L2.Same G G') : ∀ {rs : List Addr} {dss : List (List D)}, (∀ r ∈ rs, ∀ vs, H r = some (.lst vs) → H' r = some (.lst vs)) → Inn K A G H rs dss → Inn K A G' H' rs dss
  | [], [], _, _ => trivial
  | r :: rs, _ :: _, k, h => by
    obtain ⟨⟨vs, e, q⟩, h⟩ := h
    exact ⟨⟨vs, k r (List.mem_cons_self ..) vs e, q.mono g⟩, Inn.mono g (fun r hr => k r (List.mem_cons_of_mem _ hr)) h⟩
  | [], _ :: _, _, h => h.elim
  | _ :: _, [], _, h => h.elim
structure SK (K : PySem.W.Frag) (A : CT) (G0 H0 : Hp) (p : Addr) (rs : List Addr) (dss : List (List D)) (G H : Hp) : Prop where
  x0 : Ext (fun _ => False) G0 H0 G H
  sub : Sub G H
  fp : H0 p = none
  np : G p = none
  fr : ∀ r ∈ rs, H0 r = none ∧ G r = none ∧ r ≠ p
  nd : rs.Nodup
  hp : H p = some (.lst (rs.reverse.map V.ref))
  inn : Inn K A G H rs dss
theorem SK.nx (x : SK K A G0 H0 p rs dss G H) : Nx0 G0 H0 G H := ⟨x.x0, x.sub⟩
theorem SK.at_ (x : SK K A G0 H0 p rs dss G H) : ∀ r ∈ rs, ∃ vs, H r = some (.lst vs) := by
  have h := x.inn
  clear x
  revert h
  induction rs generalizing dss with
  | nil => intro h r hr; cases hr
  | cons a l ih =>
    cases dss with
    | nil => exact fun h => h.elim
    | cons d ds =>
      intro h r hr
      rcases List.mem_cons.mp hr with e | e
      · subst e; obtain ⟨⟨vs, e, _⟩, _⟩ := h; exact ⟨vs, e⟩
      · exact ih h.2 r e
/-- other things happen -/
theorem SK.step (x : SK K A G0 H0 p rs dss G H) (e : Nx0 G H G1 H1) : SK K A G0 H0 p rs dss G1 H1 := by
  have keep : ∀ q vs, H q = some (.lst vs) → H1 q = some (.lst vs) := fun q vs h => e.ext.hs q _ h id fun ps z => nomatch z
  have gn : ∀ q o, G q = none → H q = some o → G1 q = none := fun q o g h => by
    cases z : G1 q with
    | none => rfl
    | some u =>
      rcases e.ext.fr q (by rw [z]; exact fun v => nomatch v) with w | w | w
      · exact absurd g w
      · rw [h] at w; cases w
      · exact w.elim
  exact ⟨(x.nx.trans e).ext, e.sub, x.fp, gn p _ x.np x.hp, fun r hr => by
    obtain ⟨vs, hv⟩ := x.at_ r hr
    obtain ⟨a, b, c⟩ := x.fr r hr
    exact ⟨a, gn r _ b hv, c⟩, x.nd, keep p _ x.hp, x.inn.mono e.ext.gs fun r _ vs h => keep r vs h⟩
theorem ext_wr {q : Addr} {o : HO} (x : Ext (fun _ => False) G0 H0 G H) (f0 : H0 q = none) : Ext (fun _ => False) G0 H0 G (upd H q o) :=
  ⟨x.gs, x.fr, fun a u e nn t => by
    have : a ≠ q := fun z => by subst z; rw [f0] at e; cases e
    rw [upd_ne this]; exact x.hs a u e nn t, fun a e => by
    by_cases z : a = q
    · subst z; rw [upd_same]; exact fun w => nomatch w
    · rw [upd_ne z]; exact x.there a e⟩
theorem sub_wr {q : Addr} {xs ys : List V} (s : Sub G H) (g0 : G q = none) (h : H q = some (.lst xs)) : Sub G (upd H q (.lst ys)) :=
  ⟨fun a o e => by
    have : a ≠ q := fun z => by subst z; rw [g0] at e; cases e
    rw [upd_ne this]; exact s.at_ a o e, nT.up h trivial s.tb, s.nt, s.bs⟩
theorem sub_new {q : Addr} {ys : List V} (s : Sub G H) (h : H q = none) : Sub G (upd H q (.lst ys)) :=
  ⟨fun a o e => by
    have : a ≠ q := fun z => by
      subst z
      rcases s.at_ a o e with w | ⟨_, _, w⟩ <;> (rw [h] at w; cases w)
    rw [upd_ne this]; exact s.at_ a o e, nT.new h s.tb, s.nt, s.bs⟩
theorem sub_no {q : Addr} (s : Sub G H) (h : H q = none) : G q = none := by
  cases z : G q with
  | none => rfl
  | some o => rcases s.at_ q o z with w | ⟨_, _, w⟩ <;> (rw [h] at w; cases w)
theorem ext_no {q : Addr} (x : Ext (fun _ => False) G0 H0 G H) (h : H q = none) : H0 q = none := by
  cases z : H0 q with
  | none => rfl
  | some o => exact absurd h (x.there q (by rw [z]; exact fun v => nomatch v))
theorem Inn.upd_ne {q : Addr} {o : HO} : ∀ {rs : List Addr} {dss : List (List D)}, q ∉ rs → Inn K A G H rs dss → Inn K A G (upd H q o) rs dss
  | [], [], _, _ => trivial
  | r :: rs, _ :: _, n, h => by
    obtain ⟨⟨vs, e, z⟩, h⟩ := h
    rw [List.mem_cons, not_or] at n
    exact ⟨⟨vs, by rw [L2.upd_ne (fun w => n.1 w.symm)]; exact e, z⟩, Inn.upd_ne n.2 h⟩
  | [], _ :: _, _, h => h.elim
  | _ :: _, [], _, h => h.elim
/-- the last list gets one more -/
theorem SK.put {r : Addr} {d : List D} {v : V} {e : D} {vs : List V} (x : SK K A G0 H0 p (r :: rs) (d :: dss) G H) (hr : H r = some (.lst vs)) (q : Rep K A G v e) :
    SK K A G0 H0 p (r :: rs) ((d ++ [e]) :: dss) G (upd H r (.lst (vs ++ [v]))) := by
  obtain ⟨f0, g0, rp⟩ := x.fr r (List.mem_cons_self ..)
  have nd := List.nodup_cons.mp x.nd
  obtain ⟨⟨ws, h1, h2⟩, h3⟩ := x.inn
  rw [hr] at h1
  cases h1
  exact ⟨ext_wr x.x0 f0, sub_wr x.sub g0 hr, x.fp, x.np, x.fr, x.nd, by rw [L2.upd_ne (fun z => rp z.symm)]; exact x.hp, ⟨⟨_, upd_same, h2.append (.cons q .nil)⟩, h3.upd_ne nd.1⟩⟩
/-- one more list -/
theorem SK.push {r : Addr} (x : SK K A G0 H0 p rs dss G H) (hr : H r = none) :
    SK K A G0 H0 p (r :: rs) ([] :: dss) G (upd (upd H r (.lst [])) p (.lst (rs.reverse.map V.ref ++ [.ref r]))) := by
  have rp : r ≠ p := fun z => by subst z; rw [x.hp] at hr; cases hr
  have rm : r ∉ rs := fun z => by obtain ⟨vs, h⟩ := x.at_ r z; rw [hr] at h; cases h
  have pm : p ∉ rs := fun z => (x.fr p z).2.2 rfl
  have hp1 : upd H r (.lst []) p = some (.lst (rs.reverse.map V.ref)) := by rw [L2.upd_ne (fun z => rp z.symm)]; exact x.hp
  refine ⟨ext_wr (ext_wr x.x0 (ext_no x.x0 hr)) x.fp, sub_wr (sub_new x.sub hr) x.np hp1, x.fp, x.np, fun q hq => ?_, List.nodup_cons.mpr ⟨rm, x.nd⟩, ?_, ?_⟩
  · rcases List.mem_cons.mp hq with e | e
    · subst e; exact ⟨ext_no x.x0 hr, sub_no x.sub hr, rp⟩
    · exact x.fr q e
  · rw [upd_same, List.reverse_cons, List.map_append]; rfl
  · refine ⟨⟨[], by rw [L2.upd_ne rp, upd_same], .nil⟩, Inn.upd_ne pm (Inn.upd_ne rm x.inn)⟩
/-- the last list is taken off -/
theorem SK.pop {r : Addr} {d : List D} {xs : List V} (x : SK K A G0 H0 p (r :: rs) (d :: dss) G H) (he : xs = rs.reverse.map V.ref) :
    ∃ vs, upd H p (.lst xs) r = some (.lst vs) ∧ Reps K A G vs d ∧ SK K A G0 H0 p rs dss (upd G r (.lst vs)) (upd H p (.lst xs)) := by
  subst he
  obtain ⟨f0, g0, rp⟩ := x.fr r (List.mem_cons_self ..)
  have nd := List.nodup_cons.mp x.nd
  have pm : p ∉ rs := fun z => (x.fr p (List.mem_cons_of_mem _ z)).2.2 rfl
  obtain ⟨⟨vs, h1, h2⟩, h3⟩ := x.inn
  have hr1 : upd H p (.lst (rs.reverse.map V.ref)) r = some (.lst vs) := by rw [L2.upd_ne rp]; exact h1
  have s1 := sub_wr (ys := rs.reverse.map V.ref) x.sub x.np x.hp
  have x1 : Ext (fun _ => False) G0 H0 G (upd H p (.lst (rs.reverse.map V.ref))) := ext_wr x.x0 x.fp
  have sm : L2.Same G (upd G r (.lst vs)) := SL.Same.new g0
  refine ⟨vs, hr1, h2, ⟨⟨fun a o e => sm a o (x1.gs a o e), fun q e => ?_, x1.hs, x1.there⟩, ⟨fun q o e => ?_, s1.tb, fun q ps e => ?_, fun q o e => sm q o (s1.bs q o e)⟩, x.fp, ?_, fun q hq => ?_, nd.2, upd_same, ?_⟩⟩
  · by_cases z : q = r
    · subst z; exact .inr (.inl f0)
    · rw [L2.upd_ne z] at e; exact x1.fr q e
  · by_cases z : q = r
    · subst z; rw [upd_same] at e; cases e; exact .inl hr1
    · rw [L2.upd_ne z] at e; exact s1.at_ q o e
  · by_cases z : q = r
    · subst z; rw [upd_same] at e; cases e
    · rw [L2.upd_ne z] at e; exact s1.nt q ps e
  · rw [L2.upd_ne (fun z => rp z.symm)]; exact x.np
  · obtain ⟨a, b, c⟩ := x.fr q (List.mem_cons_of_mem _ hq)
    have qr : q ≠ r := fun z => by subst z; exact nd.1 hq
    exact ⟨a, by rw [L2.upd_ne qr]; exact b, c⟩
  · exact (Inn.upd_ne pm h3).mono sm fun _ _ _ h => h
theorem at_last (r : Addr) (rs : List Addr) : L2.atI ((r :: rs).reverse.map V.ref) (-1) = some (.ref r) := by
  have hl : ((r :: rs).reverse.map V.ref).length = rs.length + 1 := by simp
  unfold L2.atI L2.ixN
  rw [hl, if_neg (by decide), if_pos (by omega)]
  show ((r :: rs).reverse.map V.ref)[(-1 + ((rs.length + 1 : Nat) : Int)).toNat]? = _
  have : (-1 + ((rs.length + 1 : Nat) : Int)).toNat = rs.length := by omega
  rw [this, List.reverse_cons, List.map_append, List.getElem?_append_right (by simp)]
  simp
theorem last_of (r : Addr) (rs : List Addr) : ((r :: rs).reverse.map V.ref)[((r :: rs).reverse.map V.ref).length - 1]? = some (.ref r) ∧ ((r :: rs).reverse.map V.ref).dropLast = rs.reverse.map V.ref := by
  rw [List.reverse_cons, List.map_append]
  constructor
  · rw [List.length_append]
    show (_ ++ [V.ref r])[_ + 1 - 1]? = _
    rw [Nat.add_sub_cancel, List.getElem?_append_right (Nat.le_refl _), Nat.sub_self]; rfl
  · show (_ ++ [V.ref r]).dropLast = _
    rw [List.dropLast_concat]
end
/-! ### the def -/
def rLn (K : PySem.W.Frag) : List V → Hp → VK → Prop := fun xs H Q => ∃ x n, xs = [x] ∧ LenV K x H n ∧ Q (.int n) H
def tTop (K : PySem.W.Frag) : TE := tOp (rIxL K) (tVar 1) (tUn (rU fun i => .int (-i)) (tC (.int 1)))
def tApp (K : PySem.W.Frag) (te : TE) : TS := tDrop (tBM K "list" rAppend (tTop K) (tCons te tNil))
def tFst (K : PySem.W.Frag) : TE := tOp (rIxL K) (tVar 1) (tC (.int 0))
def rNest (K : PySem.W.Frag) (A : CT) (it : Iv) (t1 e1 t2 t3 t4 t5 : Ev) : TS :=
  tSeq (tPar 1 2 (tCons (tLst (tCons (tLst tNil) tNil)) (tCons (tC (.str "")) tNil)))
  (tSeq (tFor (liftI K A it) (liftG K A [3] (gN 3))
    (tSeq (tIfS (liftT K A t1) (tSeq (tAsg (liftE K A e1) (gName 2)) tCont) tNext)
    (tSeq (tIfS (liftT K A t2) (tSeq (tApp K (tVar 2)) (tAsg (tC (.str "")) (gName 2))) tNext)
    (tSeq (tIfS (liftT K A t3) (tDrop (tBM K "list" rAppend (tVar 1) (tCons (tLst tNil) tNil))) tNext)
      (tIfS (liftT K A t4) (tSeq (tIfS (tTest (tOp (rI0 fun i j => .bl (decide (i < j))) (tCB (rLn K) (tCons (tVar 1) tNil)) (tC (.int 2)))) (tRet (tC .non)) tNext)
        (tSeq (tAsg (tCB (rDn K A tupleD) (tCons (tBM0 K "list" rPop (tVar 1)) tNil)) (gName 4)) (tApp K (tVar 4)))) tNext)))))
  (tSeq (tIfS (tOr (liftT K A t5) (tOr (tTest (tOp rNe (tCB (rLn K) (tCons (tVar 1) tNil)) (tC (.int 1)))) (tOr (tTest (tOp rNe (tCB (rLn K) (tCons (tFst K) tNil)) (tC (.int 1))))
      (tNot (tB (tCB (rDn K A isiD) (tCons (tOp (rIxL K) (tFst K) (tC (.int 0))) (tCons (tC (.ty "tuple")) tNil)))))))) (tRet (tC .non)) tNext)
    (tRet (tOp (rIxL K) (tFst K) (tC (.int 0))))))
/-- what its parts give -/
structure NestOk (it : Iv) (t1 e1 t2 t3 t4 t5 : Ev) : Prop where
  it : ∀ s : List Nat, s.length ≤ 2000 → ∃ ρ', it [.sh (.str s), .un, .sh (.str []), .un, .un] = .ok (s.map fun c => D.str [c], ρ')
  t1 : ∀ (s w : List Nat) (c : Nat), ∃ ρ', val t1 [.sh (.str s), .un, .sh (.str w), .sh (.str [c]), .un] = .ok (.bl (!(decide (c = 40) || decide (c = 41) || decide (c = 32))), ρ')
  e1 : ∀ (s w : List Nat) (c : Nat), w.length ≤ 2000 → ∃ ρ', e1 [.sh (.str s), .un, .sh (.str w), .sh (.str [c]), .un] = .ok ((.str (w ++ [c]), false), ρ')
  t2 : ∀ (s w : List Nat) (c : Nat), ∃ ρ', val t2 [.sh (.str s), .un, .sh (.str w), .sh (.str [c]), .un] = .ok (.bl (!decide (w = [])), ρ')
  t3 : ∀ (s w : List Nat) (c : Nat), ∃ ρ', val t3 [.sh (.str s), .un, .sh (.str w), .sh (.str [c]), .un] = .ok (.bl (decide (c = 40)), ρ')
  t4 : ∀ (s w : List Nat) (c : Nat), ∃ ρ', val t4 [.sh (.str s), .un, .sh (.str w), .sh (.str [c]), .un] = .ok (.bl (decide (c = 41)), ρ')
  t5 : ∀ (s w : List Nat), ∃ ρ', val t5 [.sh (.str s), .un, .sh (.str w), .un, .un] = .ok (.bl (!decide (w = [])), ρ')
theorem goN_app : ∀ (a b : List Nat) (s : NSt), goN (a ++ b) s = match goN a s with | some s' => goN b s' | none => none
  | [], b, s => rfl
  | c :: a, b, s => by
    show (match stepN s c with | some s' => goN (a ++ b) s' | none => none) = match (match stepN s c with | some s' => goN a s' | none => none) with | some s' => goN b s' | none => none
    cases stepN s c with
    | none => rfl
    | some s' => exact goN_app a b s'
theorem goN_one {a : List Nat} {s s' : NSt} {c : Nat} (h : goN a s = some s') : goN (a ++ [c]) s = stepN s' c := by
  rw [goN_app, h]
  show (match stepN s' c with | some s'' => goN [] s'' | none => none) = _
  cases stepN s' c <;> rfl
theorem goN_none {xs : List Nat} {s s' : NSt} {i c : Nat} (h : goN (xs.take i) s = some s') (hc : xs[i]? = some c) (hn : stepN s' c = none) : goN xs s = none := by
  have hi := (List.getElem?_eq_some_iff.mp hc).1
  have hx := (List.getElem?_eq_some_iff.mp hc).2
  have e : xs = xs.take i ++ c :: xs.drop (i + 1) := by
    conv => lhs; rw [← List.take_append_drop i xs, List.drop_eq_getElem_cons hi, hx]
  rw [e, goN_app, h]
  show (match stepN s' c with | some s'' => goN _ s'' | none => none) = _
  rw [hn]
section
variable {K : PySem.W.Frag} {A : CT} {G G' G0 G1 H H' H0 H1 H2 : Hp} {σ : L2.St} {ρ ρ' : Env} {p r : Addr} {rs : List Addr} {dss : List (List D)} {it : Iv} {t1 e1 t2 t3 t4 t5 : Ev} {s w : List Nat} {sg md : Option V}
theorem SK.start (sb : Sub G H) (hr : H r = none) (hp : upd H r (.lst []) p = none) : SK K A G H p [r] [[]] G (upd (upd H r (.lst [])) p (.lst [.ref r])) := by
  have pr : p ≠ r := fun z => by subst z; rw [upd_same] at hp; cases hp
  have hp0 : H p = none := by rw [L2.upd_ne pr] at hp; exact hp
  have x0 : Ext (fun _ => False) G H G H := Ext.refl _ _ _
  exact ⟨ext_wr (ext_wr x0 hr) hp0, sub_new (sub_new sb hr) hp, hp0, sub_no sb hp0, fun q hq => by rw [List.mem_singleton.mp hq]; exact ⟨hr, sub_no sb hr, fun z => pr z.symm⟩, by simp, by rw [upd_same]; rfl,
    ⟨⟨[], by rw [L2.upd_ne (fun z => pr z.symm), upd_same], .nil⟩, trivial⟩⟩
theorem st4c {c : Nat} (sb : Sub G H) : St K A [some (.str (S s)), some (.ref p), some (.str (S w)), some (.str (S [c])), md] G H [.sh (.str s), .un, .sh (.str w), .sh (.str [c]), .un] :=
  st_by sb (.cons (sh_ok (.str _)) (.cons un_ok (.cons (sh_ok (.str _)) (.cons (sh_ok (.str _)) (.cons un_ok .nil))))) rfl
theorem st4n (sb : Sub G H) : St K A [some (.str (S s)), some (.ref p), some (.str (S w)), sg, md] G H [.sh (.str s), .un, .sh (.str w), .un, .un] :=
  st_by sb (.cons (sh_ok (.str _)) (.cons un_ok (.cons (sh_ok (.str _)) (.cons un_ok (.cons un_ok .nil))))) rfl
theorem five {σ' : L2.St} {a b c d e : Option V} {v : V} (hl : σ'.length = 5) (h : ∀ i, i ∉ [3] → σ'[i]? = [a, b, c, d, e][i]?) (h3 : σ'.getD 3 none = some v) : σ' = [a, b, c, some v, e] := by
  match σ', hl with
  | [x0, x1, x2, x3, x4], _ =>
    have h0 := h 0 (by decide)
    have h1 := h 1 (by decide)
    have h2 := h 2 (by decide)
    have h4 := h 4 (by decide)
    simp at h0 h1 h2 h4 h3
    subst h0 h1 h2 h4 h3
    rfl
/-- a list's length -/
theorem len_use {n : Nat} {xs : List V} {q : Addr} {Q : VK} (h : H q = some (.lst xs)) (hn : xs.length = n) (k : Q (.int n) H) : rLn K [.ref q] H Q :=
  ⟨_, n, rfl, .inl ⟨xs, .inl (.inl h), hn.symm⟩, k⟩
theorem top_use {d : List D} {Q : VK} (x : SK K A G0 H0 p (r :: rs) (d :: dss) G H) (k : Q (.ref r) H) : tTop K [some (.str (S s)), some (.ref p), some (.str (S w)), sg, md] H Q :=
  ⟨.ref p, rfl, 1, rfl, p, _, -1, .ref r, rfl, rfl, .inl (.inl x.hp), at_last r rs, k⟩
theorem app_use {d : List D} {j : Nat} {v : V} {e : D} {D : Ends} (x : SK K A G0 H0 p (r :: rs) (d :: dss) G H) (hd : d.length ≤ 5000) (hj : [some (.str (S s)), some (.ref p), some (.str (S w)), sg, md][j]? = some (some v)) (q : Rep K A G v e)
    (k : ∀ H2, SK K A G0 H0 p (r :: rs) ((d ++ [e]) :: dss) G H2 → D.nx [some (.str (S s)), some (.ref p), some (.str (S w)), sg, md] H2) :
    tApp K (tVar j) D [some (.str (S s)), some (.ref p), some (.str (S w)), sg, md] H := by
  obtain ⟨⟨vs, h1, h2⟩, h3⟩ := x.inn
  refine top_use x ⟨.inl ⟨rfl, _, .inl (.inl h1)⟩, v, hj, ?_⟩
  refine ⟨r, vs, v, rfl, rfl, h1, ?_, k _ (x.put h1 q)⟩
  rw [h2.len, sizeLine_eq]; omega
theorem ifL {m : Ev} {t u : TS} {D : Ends} {b : Bool} (st : St K A σ G H ρ) (no : noOws ρ = true) (e : val m ρ = .ok (.bl b, ρ')) (kt : b = true → ∀ G1 H1, Nx0 G H G1 H1 → t D σ H1) (kf : b = false → ∀ G1 H1, Nx0 G H G1 H1 → u D σ H1) : tIfS (liftT K A m) t u D σ H :=
  ⟨G, ρ, b, ρ', st, e, fun G1 H1 n => by
    cases b with
    | true => exact kt rfl G1 H1 (nx_nx0 no n)
    | false => exact kf rfl G1 H1 (nx_nx0 no n)⟩
theorem ife {b : Bool} {P Q : Prop} (hp : b = true → P) (hq : b = false → Q) : if b = true then P else Q := by
  cases b with
  | true => rw [if_pos rfl]; exact hp rfl
  | false => rw [if_neg Bool.false_ne_true]; exact hq rfl
/-- the word is laid down -/
theorem flush_use {c n : Nat} {D : Ends} {st : List (List DY.D)} (X : NestOk it t1 e1 t2 t3 t4 t5) (x : SK K A G0 H0 p rs st G H) (hs : ShN n (st, w)) (hn : n ≤ 2000)
    (k : ∀ G' H', L2.Same G G' → SK K A G0 H0 p rs (addW w st) G' H' → D.nx [some (.str (S s)), some (.ref p), some (.str (S [])), some (.str (S [c])), md] H') :
    tIfS (liftT K A t2) (tSeq (tApp K (tVar 2)) (tAsg (tC (.str "")) (gName 2))) tNext D [some (.str (S s)), some (.ref p), some (.str (S w)), some (.str (S [c])), md] H := by
  obtain ⟨ρ1, h1⟩ := X.t2 s w c
  refine ifL (st4c x.sub) rfl h1 (fun b G1 H1 n1 => ?_) fun b G1 H1 n1 => ?_
  · have x1 := x.step n1
    cases st with
    | nil => exact absurd rfl hs.one
    | cons d dss =>
      cases rs with
      | nil => exact x1.inn.elim
      | cons r rs =>
        have hd : d.length ≤ 5000 := Nat.le_trans (hs.each d (List.mem_cons_self ..)) (by omega)
        have hw : w ≠ [] := by simpa using b
        refine app_use x1 hd (v := .str (S w)) (e := .str w) rfl (.str w) fun H2 x2 => ?_
        refine k G1 H2 n1.ext.gs ?_
        show SK K A G0 H0 p (r :: rs) ((if w = [] then d else d ++ [.str w]) :: dss) G1 H2
        rw [if_neg hw]; exact x2
  · have hw : w = [] := by simpa using b
    subst hw
    refine k G1 H1 n1.ext.gs ?_
    have : addW [] st = st := by cases st with | nil => rfl | cons d dss => rfl
    rw [this]; exact x.step n1
/-- one sign -/
theorem body_use {c n : Nat} {D : Ends} {st : List (List DY.D)} (X : NestOk it t1 e1 t2 t3 t4 t5) (x : SK K A G0 H0 p rs st G H) (hs : ShN n (st, w)) (hn : n ≤ 2000)
    (hP : ∀ st' w' md' G' H' rs', stepN (st, w) c = some (st', w') → L2.Same G G' → SK K A G0 H0 p rs' st' G' H' → D.nx [some (.str (S s)), some (.ref p), some (.str (S w')), some (.str (S [c])), md'] H' ∧ D.ct [some (.str (S s)), some (.ref p), some (.str (S w')), some (.str (S [c])), md'] H')
    (hN : ∀ G' H', stepN (st, w) c = none → Nx0 G0 H0 G' H' → D.rt .non H') :
    tSeq (tIfS (liftT K A t1) (tSeq (tAsg (liftE K A e1) (gName 2)) tCont) tNext)
    (tSeq (tIfS (liftT K A t2) (tSeq (tApp K (tVar 2)) (tAsg (tC (.str "")) (gName 2))) tNext)
    (tSeq (tIfS (liftT K A t3) (tDrop (tBM K "list" rAppend (tVar 1) (tCons (tLst tNil) tNil))) tNext)
      (tIfS (liftT K A t4) (tSeq (tIfS (tTest (tOp (rI0 fun i j => .bl (decide (i < j))) (tCB (rLn K) (tCons (tVar 1) tNil)) (tC (.int 2)))) (tRet (tC .non)) tNext)
        (tSeq (tAsg (tCB (rDn K A tupleD) (tCons (tBM0 K "list" rPop (tVar 1)) tNil)) (gName 4)) (tApp K (tVar 4)))) tNext))) D [some (.str (S s)), some (.ref p), some (.str (S w)), some (.str (S [c])), md] H := by
  have wl : w.length ≤ 2000 := Nat.le_trans hs.word hn
  obtain ⟨ρ1, h1⟩ := X.t1 s w c
  refine ifL (st4c x.sub) rfl h1 (fun b G1 H1 n1 => ?_) fun b G1 H1 n1 => ?_
  · have hc : ¬ c = 40 ∧ ¬ c = 41 ∧ ¬ c = 32 := by simpa [not_or, and_assoc] using b
    have x1 := x.step n1
    obtain ⟨ρ2, h2⟩ := X.e1 s w c wl
    refine ⟨G1, _, _, ρ2, st4c x1.sub, h2, fun v G2 H2 n2 r2 => ?_⟩
    have n2 := nx_nx0 rfl n2
    have x2 := x1.step n2
    have r2 : Rep K A G2 v (.str (w ++ [c])) := r2
    cases r2
    have e : stepN (st, w) c = some (st, w ++ [c]) := stepN_w hc.1 hc.2.1 hc.2.2
    exact (hP st (w ++ [c]) md G2 H2 rs e (fun a o z => n2.ext.gs a o (n1.ext.gs a o z)) x2).2
  · have hc : c = 40 ∨ c = 41 ∨ c = 32 := by
      by_cases h : c = 40 ∨ c = 41 ∨ c = 32
      · exact h
      · rw [not_or, not_or] at h; simp [h.1, h.2.1, h.2.2] at b
    have x1 := x.step n1
    refine flush_use X x1 hs hn fun G2 H2 g2 x2 => ?_
    have am := addW_ne (w := w) hs.one
    have al := addW_len w st
    have ae := (addW_sh hs).each
    have gs : L2.Same G G2 := fun a o z => g2 a o (n1.ext.gs a o z)
    obtain ⟨ρ3, h3⟩ := X.t3 s [] c
    refine ifL (st4c x2.sub) rfl h3 (fun b3 G3 H3 n3 => ?_) fun b3 G3 H3 n3 => ?_
    · have c40 : c = 40 := by simpa using b3
      have x3 := x2.step n3
      refine ⟨.ref p, rfl, .inl ⟨rfl, _, .inl (.inl x3.hp)⟩, Nat.zero_le _, fun q hq => ?_⟩
      have pq : p ≠ q := fun z => by subst z; rw [x3.hp] at hq; cases hq
      refine ⟨p, _, .ref q, rfl, rfl, by rw [L2.upd_ne pq]; exact x3.hp, ?_, ?_⟩
      · have := x3.inn.len
        have := hs.many
        simp only [List.length_map, List.length_reverse] at *
        rw [sizeLine_eq]; omega
      have x4 := x3.push hq
      obtain ⟨ρ4, h4⟩ := X.t4 s [] c
      refine ifL (st4c x4.sub) rfl h4 (fun b4 G4 H4 n4 => ?_) fun b4 G4 H4 n4 => ?_
      · subst c40; cases b4
      · exact (hP _ _ md G4 H4 _ (stepN_40 c40) (fun a o z => n4.ext.gs a o (n3.ext.gs a o (gs a o z))) (x4.step n4)).1
    · have c40 : c ≠ 40 := by simpa using b3
      have x3 := x2.step n3
      obtain ⟨ρ4, h4⟩ := X.t4 s [] c
      refine ifL (st4c x3.sub) rfl h4 (fun b4 G4 H4 n4 => ?_) fun b4 G4 H4 n4 => ?_
      · have c41 : c = 41 := by simpa using b4
        have x4 := x3.step n4
        have gs4 : L2.Same G G4 := fun a o z => n4.ext.gs a o (n3.ext.gs a o (gs a o z))
        have es : stepN (st, w) c = match addW w st with | t :: u :: r => some ((u ++ [.tup t]) :: r, []) | _ => none := stepN_41 c41
        refine ⟨.ref p, rfl, ?_⟩
        dsimp only [tNil]
        refine len_use x4.hp rfl ⟨_, 2, rfl, rfl, _, rfl, ?_⟩
        have ln : (rs.reverse.map V.ref).length = (addW w st).length := by rw [List.length_map, List.length_reverse, x4.inn.len]
        cases e : addW w st with
        | nil => exact absurd e am
        | cons t rest =>
          cases rest with
          | nil =>
            have hb : decide ((((rs.reverse.map V.ref).length : Nat) : Int) < 2) = true := by rw [ln, e]; rfl
            exact ife (fun _ => hN G4 H4 (by rw [es, e]) x4.nx) fun z => by rw [hb] at z; cases z
          | cons u rest =>
            have hb : decide ((((rs.reverse.map V.ref).length : Nat) : Int) < 2) = false := by
              rw [ln, e]; simp only [List.length_cons]; exact decide_eq_false (by omega)
            refine ife (fun z => by rw [hb] at z; cases z) fun _ => ?_
            rw [e] at x4 ae
            match rs, x4 with
            | [], x4 => exact x4.inn.elim
            | [r1], x4 => exact x4.inn.2.elim
            | r1 :: r2 :: rs, x4 =>
              obtain ⟨l1, l2⟩ := last_of r1 (r2 :: rs)
              obtain ⟨vs, q1, q2, x5⟩ := x4.pop (xs := ((r1 :: r2 :: rs).reverse.map V.ref).dropLast) l2
              refine ⟨.ref p, rfl, .inl ⟨rfl, _, .inl (.inl x4.hp)⟩, p, _, .ref r1, rfl, rfl, x4.hp, l1, ?_⟩
              have rr : Rep K A (upd G4 r1 (.lst vs)) (.ref r1) (.lst t) := .lst upd_same (q2.mono (SL.Same.new (x4.fr r1 (List.mem_cons_self ..)).2.1))
              refine ⟨_, [.lst t], (.tup t, false), x5.sub, .cons rr .nil, rfl, fun v G6 H6 n6 r6 => ?_⟩
              have r6 : Rep K A G6 v (.tup t) := r6
              have x6 := x5.step n6
              have hu : u.length ≤ 5000 := Nat.le_trans (ae u (List.mem_cons_of_mem _ (List.mem_cons_self ..))) (by omega)
              refine app_use (j := 4) (md := some v) x6 hu rfl r6 fun H7 x7 => ?_
              exact (hP ((u ++ [.tup t]) :: rest) [] (some v) G6 H7 (r2 :: rs) (by rw [es, e]) (fun a o z => n6.ext.gs a o (SL.Same.new (x4.fr r1 (List.mem_cons_self ..)).2.1 a o (gs4 a o z))) x7).1
      · have c41 : c ≠ 41 := by simpa using b4
        have c32 : c = 32 := by rcases hc with z | z | z <;> first | exact absurd z c40 | exact absurd z c41 | exact z
        exact (hP (addW w st) [] md G4 H4 rs (stepN_32 c32) (fun a o z => n4.ext.gs a o (n3.ext.gs a o (gs a o z))) (x3.step n4)).1
theorem kind_one {n : Nat} {st : NSt} (h : ShN n st) {d : DY.D} (e : st.1 = [[d]]) : (∃ w, d = .str w) ∨ ∃ ds, d = .tup ds := h.kind [d] (by rw [e]; exact List.mem_singleton.mpr rfl) d (List.mem_singleton.mpr rfl)
theorem fst_use {d : List DY.D} {vs : List V} {Q : VK} (x : SK K A G0 H0 p [r] [d] G H) (k : Q (.ref r) H) : tFst K [some (.str (S s)), some (.ref p), some (.str (S w)), sg, md] H Q :=
  ⟨.ref p, rfl, p, _, 0, .ref r, rfl, rfl, .inl (.inl x.hp), rfl, k⟩
theorem goN_sh {n : Nat} : ∀ {xs : List Nat} {st st' : NSt}, ShN n st → goN xs st = some st' → ShN (n + xs.length) st'
  | [], st, st', h, e => by cases e; exact h
  | c :: xs, st, st', h, e => by
    unfold goN at e
    cases z : stepN st c with
    | none => rw [z] at e; cases e
    | some s1 =>
      rw [z] at e
      have := goN_sh (xs := xs) (stepN_sh h z) e
      rw [List.length_cons, show n + (xs.length + 1) = n + 1 + xs.length by omega]
      exact this
theorem sh0 : ShN 0 (([[]], []) : NSt) := ⟨(fun z => nomatch z), Nat.le_refl _, (fun l hl => by rw [List.mem_singleton.mp hl]; exact Nat.le_refl _), (fun l hl d hd => by rw [List.mem_singleton.mp hl] at hd; cases hd), Nat.le_refl _⟩
/-- the end -/
theorem end_use {n : Nat} {st : List (List DY.D)} {D : Ends} (X : NestOk it t1 e1 t2 t3 t4 t5) (x : SK K A G0 H0 p rs st G H) (hs : ShN n (st, w))
    (k : ∀ v G' H', Nx0 G0 H0 G' H' → Rep K A G' v (endN (st, w)) → D.rt v H') :
    tSeq (tIfS (tOr (liftT K A t5) (tOr (tTest (tOp rNe (tCB (rLn K) (tCons (tVar 1) tNil)) (tC (.int 1)))) (tOr (tTest (tOp rNe (tCB (rLn K) (tCons (tFst K) tNil)) (tC (.int 1))))
      (tNot (tB (tCB (rDn K A isiD) (tCons (tOp (rIxL K) (tFst K) (tC (.int 0))) (tCons (tC (.ty "tuple")) tNil)))))))) (tRet (tC .non)) tNext)
    (tRet (tOp (rIxL K) (tFst K) (tC (.int 0)))) D [some (.str (S s)), some (.ref p), some (.str (S w)), sg, md] H := by
  obtain ⟨ρ1, h1⟩ := X.t5 s w
  refine ⟨G, _, _, ρ1, st4n x.sub, h1, fun G1 H1 n1 => ?_⟩
  have x1 := x.step (nx_nx0 rfl n1)
  refine ife (fun b => ?_) fun b => ?_
  · have hw : w ≠ [] := by simpa using b
    refine k .non G1 H1 x1.nx ?_
    have : endN (st, w) = .non := by
      unfold endN; split
      · rename_i e; exact absurd (Prod.mk.inj e).2 hw
      · rfl
    rw [this]; exact .non
  have hw : w = [] := by simpa using b
  subst hw
  refine ⟨.ref p, rfl, ?_⟩
  dsimp only [tNil]
  refine len_use x1.hp rfl ⟨rfl, _, rfl, ?_⟩
  have ln : (rs.reverse.map V.ref).length = st.length := by rw [List.length_map, List.length_reverse, x1.inn.len]
  rw [ln]
  refine ife (fun b => ?_) fun b => ?_
  · have h2 : ¬ st.length = 1 := by simp at b; omega
    refine k .non G1 H1 x1.nx ?_
    have : endN (st, []) = .non := by
      unfold endN; split
      · rename_i e; exact absurd (by rw [(Prod.mk.inj e).1]; rfl) h2
      · rfl
    rw [this]; exact .non
  have h2 : st.length = 1 := by simp at b; omega
  match st, h2, x1 with
  | [d], _, x1 =>
  match rs, x1 with
  | [], x1 => exact x1.inn.elim
  | _ :: _ :: _, x1 => exact x1.inn.2.elim
  | [r], x1 =>
  obtain ⟨⟨vs, q1, q2⟩, _⟩ := id x1.inn
  refine fst_use (vs := vs) x1 ?_
  dsimp only [tNil]
  refine len_use q1 rfl ⟨rfl, _, rfl, ?_⟩
  rw [q2.len]
  refine ife (fun b => ?_) fun b => ?_
  · have h3 : ¬ d.length = 1 := by simp at b; omega
    refine k .non G1 H1 x1.nx ?_
    have : endN ([d], []) = .non := by
      unfold endN; split
      · rename_i e; exact absurd (by rw [(List.cons.inj (Prod.mk.inj e).1).1]; rfl) h3
      · rfl
    rw [this]; exact .non
  have h3 : d.length = 1 := by simp at b; omega
  match d, h3, q2 with
  | [e], _, q2 =>
  obtain ⟨v, rfl, q3⟩ := q2.inv1
  refine fst_use (vs := [v]) x1 ⟨r, _, 0, v, rfl, rfl, .inl (.inl q1), rfl, ?_⟩
  have ke := kind_one hs rfl
  rcases ke with ⟨z, rfl⟩ | ⟨ds, rfl⟩
  · refine ⟨G1, [.str z, .ty .tuple], (.bl false, false), x1.sub, .cons q3 (.cons (.ty .tuple) .nil), rfl, fun b G2 H2 n2 r2 => ?_⟩
    have r2 : Rep K A G2 b (.bl false) := r2
    cases r2
    refine ⟨false, rfl, ?_⟩
    exact k .non G2 H2 (x1.nx.trans n2) .non
  · refine ⟨G1, [.tup ds, .ty .tuple], (.bl true, false), x1.sub, .cons q3 (.cons (.ty .tuple) .nil), rfl, fun b G2 H2 n2 r2 => ?_⟩
    have r2 : Rep K A G2 b (.bl true) := r2
    cases r2
    refine ⟨true, rfl, ?_⟩
    have x2 := x1.step n2
    obtain ⟨⟨vs2, q5, q6⟩, _⟩ := id x2.inn
    obtain ⟨v2, rfl, q7⟩ := q6.inv1
    exact fst_use (vs := [v2]) x2 ⟨r, _, 0, v2, rfl, rfl, .inl (.inl q5), rfl, k v2 G2 H2 x2.nx q7⟩
theorem nest_run {vs : List V} {N : List Str} {Q : VK} {E : XK} (hN : N.length = 5) (X : NestOk it t1 e1 t2 t3 t4 t5) (h : spF K A nestF 1 vs H Q E) :
    rNest K A it t1 e1 t2 t3 t4 t5 { nx := fun _ H' => Q .non H', rt := Q } (L2.start N vs) H := by
  obtain ⟨_, G, ds, r, sb, rs, e, k⟩ := h
  obtain ⟨s, rfl, hl, rfl⟩ := nestF_ok e
  obtain ⟨v1, rfl, r1⟩ := rs.inv1
  cases r1
  have st0 : L2.start N [.str (S s)] = [some (.str (S s)), none, none, none, none] := by
    unfold L2.start
    match N, hN with
    | [_, _, _, _, _], _ => rfl
  rw [st0]
  refine ⟨Nat.zero_le _, fun r hr => ⟨by rw [sizeLine_eq]; show 1 ≤ _; omega, fun p hp => ⟨_, _, rfl, ?_⟩⟩⟩
  have x0 : SK K A G H p [r] [[]] G (upd (upd H r (.lst [])) p (.lst [.ref r])) := SK.start sb hr hp
  show tSeq _ _ _ [some (.str (S s)), some (.ref p), some (.str (S [])), none, none] _
  obtain ⟨ρ1, h1⟩ := X.it s hl
  refine for_hand (st4n x0.sub) rfl h1 (fun i σ G' H' => ∃ rs st w sg md, σ = [some (.str (S s)), some (.ref p), some (.str (S w)), sg, md] ∧ SK K A G H p rs st G' H' ∧ goN (s.take i) ([[]], []) = some (st, w))
    (fun G1 H1 n1 => ⟨_, _, [], none, none, rfl, x0.step n1, rfl⟩) (fun i σ G' H' hI => by obtain ⟨_, _, _, _, _, _, x, _⟩ := hI; exact x.sub) (fun i σ Ga Ha Gb Hb v d hI n hd rv => ?_) fun σ G1 H1 g hI => ?_
  · obtain ⟨rs, st, w, sg, md, rfl, x, eg⟩ := hI
    rw [List.getElem?_map] at hd
    cases hc : s[i]? with
    | none => rw [hc] at hd; cases hd
    | some c =>
      rw [hc] at hd
      cases hd
      have x1 := x.step n
      have sh : ShN (s.take i).length (st, w) := by have := goN_sh sh0 eg; rwa [Nat.zero_add] at this
      have tl : (s.take i).length ≤ 2000 := by rw [List.length_take]; omega
      have es : s.take (i + 1) = s.take i ++ [c] := by rw [List.take_succ, hc]; rfl
      refine ⟨Gb, _, .str [c], _, st4n x1.sub, rv, rfl, fun σ' s' _ hl' hu => ?_⟩
      obtain ⟨v3, e3, r3⟩ := s'.slot 3 (.sh (.str [c])) rfl
      cases r3
      have := five hl' hu e3
      subst this
      refine body_use X x1 sh tl (fun st' w' md' G' H' rs' e g' x' => ?_) fun G' H' e n' => ?_
      · have eg' : goN (s.take (i + 1)) ([[]], []) = some (st', w') := by rw [es, goN_one eg, e]
        exact ⟨⟨G', fun a o z => g' a o (n.ext.gs a o z), rs', st', w', _, md', rfl, x', eg'⟩, ⟨G', fun a o z => g' a o (n.ext.gs a o z), rs', st', w', _, md', rfl, x', eg'⟩⟩
      · refine k .non G' H' n' ?_
        have : nestD s = .non := by unfold nestD; rw [goN_none eg hc e]
        show Rep K A G' .non (nestD s)
        rw [this]; exact .non
  · obtain ⟨rs, st, w, sg, md, rfl, x, eg⟩ := hI
    have sh : ShN (s.take (s.map fun c => DY.D.str [c]).length).length (st, w) := by have := goN_sh sh0 eg; rwa [Nat.zero_add] at this
    rw [List.length_map, List.take_length] at eg
    refine end_use X x sh fun v G' H' n' rv => k v G' H' n' ?_
    show Rep K A G' v (nestD s)
    unfold nestD; rw [eg]; exact rv
end
end DY

set_option Elab.async false
set_option linter.all false
set_option maxRecDepth 100000
set_option maxHeartbeats 4000000
namespace DY
local instance : Tb := { T := [] }
noncomputable def mm_are_great : Sv :=
  (sSeq (sIf (eOr (eNot (eN isiD [(eVar 0), (eC (.ty .str))])) (eNot (eChain leD leD (eVar 1) (eBor1 (lenB no1) 0) (eVar 2)))) (sRet (eC (.bl false))) sNext)
  (sRet (eN allD [(eLc (iVal (eVar 0)) (gN 3) none (eChain leD leD (eC (.str [65])) (eVar 3) (eC (.str [90]))) [3])])))
noncomputable def F_are_great : Fn := shut (mkFn 4 3 mm_are_great)
theorem q_are_great : F_are_great = mkFn 4 3 mm_are_great := shut_eq _
theorem hl_are_great : ∀ ds r, F_are_great ds = .ok r → ds.length = 3 := by rw [q_are_great]; exact mkFn_len
noncomputable def mm_are_small : Sv :=
  (sSeq (sIf (eOr (eNot (eN isiD [(eVar 0), (eC (.ty .str))])) (eNot (eChain leD leD (eVar 1) (eBor1 (lenB no1) 0) (eVar 2)))) (sRet (eC (.bl false))) sNext)
  (sRet (eN allD [(eLc (iVal (eVar 0)) (gN 3) none (eChain leD leD (eC (.str [97])) (eVar 3) (eC (.str [122]))) [3])])))
noncomputable def F_are_small : Fn := shut (mkFn 4 3 mm_are_small)
theorem q_are_small : F_are_small = mkFn 4 3 mm_are_small := shut_eq _
theorem hl_are_small : ∀ ds r, F_are_small ds = .ok r → ds.length = 3 := by rw [q_are_small]; exact mkFn_len
noncomputable def mm_is_integer : Sv :=
  (sRet (eAnd (eN isiD [(eVar 0), (eC (.ty .int))]) (eNot (eN isiD [(eVar 0), (eC (.ty .bool))]))))
noncomputable def F_is_integer : Fn := shut (mkFn 1 1 mm_is_integer)
theorem q_is_integer : F_is_integer = mkFn 1 1 mm_is_integer := shut_eq _
theorem hl_is_integer : ∀ ds r, F_is_integer ds = .ok r → ds.length = 1 := by rw [q_is_integer]; exact mkFn_len
noncomputable def mm_is_number : Sv :=
  (sRet (eAnd (eN F_is_integer [(eVar 0)]) (eAnd (eBin geD (eVar 0) (eC (.int 0))) (eOr (eBin isN (eVar 1) (eC .non)) (eBin leD (eVar 0) (eVar 1))))))
noncomputable def F_is_number : Fn := shut (mkFn 2 2 mm_is_number)
theorem q_is_number : F_is_number = mkFn 2 2 mm_is_number := shut_eq _
theorem hl_is_number : ∀ ds r, F_is_number ds = .ok r → ds.length = 2 := by rw [q_is_number]; exact mkFn_len
noncomputable def mm_is_moment : Sv :=
  (sRet (eOr (eN F_is_number [(eVar 0), (eVar 1)]) (eAnd (eN isiD [(eVar 0), (eC (.ty .str))]) (eBin (eqD no2) (eVar 0) (eC (.str [108, 97, 115, 116]))))))
noncomputable def F_is_moment : Fn := shut (mkFn 2 2 mm_is_moment)
theorem q_is_moment : F_is_moment = mkFn 2 2 mm_is_moment := shut_eq _
theorem hl_is_moment : ∀ ds r, F_is_moment ds = .ok r → ds.length = 2 := by rw [q_is_moment]; exact mkFn_len
noncomputable def mt_is_level_1 : Sv :=
  (sSeq (sIf (eOr (eBin (neD no2) (eBor1 (lenB no1) 0) (eC (.int 3))) (eNot (eN F_is_moment [(eBor ixD 0 (eC (.int 2))), (eC (.int 6))]))) (sRet (eC (.bl false))) sNext)
  (sRet (eOr (eAnd (eBin (eqD no2) (eBor ixD 0 (eC (.int 0))) (eC (.str [104, 111, 111, 107]))) (eN F_are_great [(eBor ixD 0 (eC (.int 1))), (eC (.int 1)), (eC (.int 1))])) (eAnd (eBin (eqD no2) (eBor ixD 0 (eC (.int 0))) (eC (.str [112, 97, 114, 116]))) (eN F_are_small [(eBor ixD 0 (eC (.int 1))), (eC (.int 2)), (eC (.int 8))])))))
noncomputable def mt_is_level_2 : Sv :=
  (sSeq (sIf (eBin (eqD no2) (eBor ixD 0 (eC (.int 0))) (eC (.str [108, 101, 110, 103, 116, 104]))) (sRet (eAnd (eBin (eqD no2) (eBor1 (lenB no1) 0) (eC (.int 2))) (eN F_are_small [(eBor ixD 0 (eC (.int 1))), (eC (.int 1)), (eC (.int 1))]))) sNext)
  mt_is_level_1)
noncomputable def mt_is_level_3 : Sv :=
  (sSeq (sIf (eBin (eqD no2) (eBor ixD 0 (eC (.int 0))) (eC (.str [102, 108, 111, 111, 114]))) (sRet (eBin (eqD no2) (eBor1 (lenB no1) 0) (eC (.int 1)))) sNext)
  mt_is_level_2)
noncomputable def mm_is_level : Sv :=
  (sSeq (sIf (eOr (eNot (eN isiD [(eVar 0), (eC (.ty .tuple))])) (eOr (eBin (eqD no2) (eVar 0) (eN mkTup [])) (eNot (eN isiD [(eBor ixD 0 (eC (.int 0))), (eC (.ty .str))])))) (sRet (eC (.bl false))) sNext)
  mt_is_level_3)
noncomputable def F_is_level : Fn := shut (mkFn 1 1 mm_is_level)
theorem q_is_level : F_is_level = mkFn 1 1 mm_is_level := shut_eq _
theorem hl_is_level : ∀ ds r, F_is_level ds = .ok r → ds.length = 1 := by rw [q_is_level]; exact mkFn_len
noncomputable def mt_shared_factor_1 : Sv :=
  (sPar true 2 3 (eVar 3) (eBin modD (eVar 2) (eVar 3)))
noncomputable def mt_shared_factor_2 : Sv :=
  (sSeq (sWhile (eBin gtD (eVar 3) (eC (.int 0))) mt_shared_factor_1)
  (sRetV 2))
noncomputable def mm_shared_factor : Sv :=
  (sSeq (sPar true 2 3 (eN absD [(eVar 0)]) (eN absD [(eVar 1)]))
  mt_shared_factor_2)
noncomputable def F_shared_factor : Fn := shut (mkFn 4 2 mm_shared_factor)
theorem q_shared_factor : F_shared_factor = mkFn 4 2 mm_shared_factor := shut_eq _
theorem hl_shared_factor : ∀ ds r, F_shared_factor ds = .ok r → ds.length = 2 := by rw [q_shared_factor]; exact mkFn_len
noncomputable def mt_is_more_1 : Sv :=
  (sSeq (sIf (eOr (eNot (eN isiD [(eVar 0), (eC (.ty .tuple))])) (eOr (eBin (neD no2) (eBor1 (lenB no1) 0) (eC (.int 2))) (eOr (eNot (eN F_is_integer [(eBor ixD 0 (eC (.int 0)))])) (eNot (eN F_is_integer [(eBor ixD 0 (eC (.int 1)))]))))) (sRet (eC (.bl false))) sNext)
  (sRet (eAnd (eBin gtD (eBor ixD 0 (eC (.int 1))) (eC (.int 1))) (eBin (eqD no2) (eN F_shared_factor [(eBor ixD 0 (eC (.int 0))), (eBor ixD 0 (eC (.int 1)))]) (eC (.int 1))))))
noncomputable def mm_is_more : Sv :=
  (sSeq (sIf (eN F_is_integer [(eVar 0)]) (sRet (eC (.bl true))) sNext)
  mt_is_more_1)
noncomputable def F_is_more : Fn := shut (mkFn 1 1 mm_is_more)
theorem q_is_more : F_is_more = mkFn 1 1 mm_is_more := shut_eq _
theorem hl_is_more : ∀ ds r, F_is_more ds = .ok r → ds.length = 1 := by rw [q_is_more]; exact mkFn_len
noncomputable def mt_is_headed_1 : Sv :=
  (sSeq (sIf (eBin inD (eVar 1) (eN mkTup [(eC (.str [97, 110, 100])), (eC (.str [111, 114]))])) (sRet (eChain leD leD (eC (.int 2)) (eVar 2) (eC (.int 6)))) sNext)
  (sRet (eOr (eAnd (eBin (eqD no2) (eVar 1) (eC (.str [110, 111, 116]))) (eBin (eqD no2) (eVar 2) (eC (.int 1)))) (eAnd (eBin (eqD no2) (eVar 1) (eC (.str [105, 102]))) (eBin (eqD no2) (eVar 2) (eC (.int 2)))))))
noncomputable def mt_is_headed_2 : Sv :=
  (sSeq (sIf (eBin (eqD no2) (eVar 1) (eC (.str [111, 118, 101, 114]))) (sRet (eAnd (eBin (eqD no2) (eVar 2) (eC (.int 3))) (eAnd (eN F_is_level [(eBor ixD 0 (eC (.int 1)))]) (eAnd (eN F_is_level [(eBor ixD 0 (eC (.int 2)))]) (eN F_is_more [(eBor ixD 0 (eC (.int 3)))]))))) sNext)
  mt_is_headed_1)
noncomputable def mt_is_headed_3 : Sv :=
  (sSeq (sPar true 1 2 (eBor ixD 0 (eC (.int 0))) (eBin (subD no2) (eBor1 (lenB no1) 0) (eC (.int 1))))
  mt_is_headed_2)
noncomputable def mm_is_headed : Sv :=
  (sSeq (sIf (eOr (eNot (eN isiD [(eVar 0), (eC (.ty .tuple))])) (eOr (eBin (eqD no2) (eVar 0) (eN mkTup [])) (eNot (eN isiD [(eBor ixD 0 (eC (.int 0))), (eC (.ty .str))])))) (sRet (eC (.bl false))) sNext)
  mt_is_headed_3)
noncomputable def F_is_headed : Fn := shut (mkFn 3 1 mm_is_headed)
theorem q_is_headed : F_is_headed = mkFn 3 1 mm_is_headed := shut_eq _
theorem hl_is_headed : ∀ ds r, F_is_headed ds = .ok r → ds.length = 1 := by rw [q_is_headed]; exact mkFn_len
noncomputable def mt_overs_in_1 : Sv :=
  (sSeq (sIf (eOr (eBin gtD (eVar 4) (eC (.int 4))) (eNot (eN F_is_headed [(eVar 3)]))) (sRet (eC .non)) sNext)
  (sIf (eBin (eqD no2) (eBor ixD 3 (eC (.int 0))) (eC (.str [111, 118, 101, 114]))) (sSeq (sExpr (eMut appendM 1 [(eVar 3)]))
  (sIf (eBin gtD (eBor1 (lenB no1) 1) (eC (.int 8))) (sRet (eC .non)) sNext)) (sExpr (eMut extendM 2 [(eLc (iVal (eUn tailRD (eVar 3))) (gN 5) none (eN mkTup [(eVar 5), (eBin (addD no2) (eVar 4) (eC (.int 1)))]) [5])]))))
noncomputable def mt_overs_in_2 : Sv :=
  (sSeq (sAsgT (gT [(gN 3), (gN 4)]) (eMut popM 2 []))
  mt_overs_in_1)
noncomputable def mt_overs_in_3 : Sv :=
  (sSeq (sWhile (eBor neE 2 (eN mkLst [])) mt_overs_in_2)
  (sRetV 1))
noncomputable def mm_overs_in : Sv :=
  (sSeq (sPar true 1 2 (eN mkLst []) (eN mkLst [(eN mkTup [(eVar 0), (eC (.int 0))])]))
  mt_overs_in_3)
noncomputable def F_overs_in : Fn := shut (mkFn 6 1 mm_overs_in)
theorem q_overs_in : F_overs_in = mkFn 6 1 mm_overs_in := shut_eq _
theorem hl_overs_in : ∀ ds r, F_overs_in ds = .ok r → ds.length = 1 := by rw [q_overs_in]; exact mkFn_len
noncomputable def mm_Wish___init__ : Sv :=
  (sSeq (sIf (eBin isN (eN F_overs_in [(eVar 1)]) (eC .non)) sNo sNext)
  (sFld 5 0 (eVar 1)))
noncomputable def F_Wish___init__ : FnR := shut (mkFnR 2 2 0 mm_Wish___init__)
theorem q_Wish___init__ : F_Wish___init__ = mkFnR 2 2 0 mm_Wish___init__ := shut_eq _
theorem hi_Wish___init__ : ∀ ds d r, F_Wish___init__ ds d = .ok r → ds.length + 1 = 2 := by rw [q_Wish___init__]; exact mkFnR_len
noncomputable def mm_Ratio___str__ : Sv :=
  (sSeq (sIf (eBin (eqD no2) (eUn (fldD 0 1) (eVar 0)) (eC (.int 1))) (sRet (eUn fmtD (eUn (fldD 0 0) (eVar 0)))) sNext)
  (sRet (eN fcat [(eUn fmtD (eUn (fldD 0 0) (eVar 0))), (eC (.str [47])), (eUn fmtD (eUn (fldD 0 1) (eVar 0)))])))
noncomputable def F_Ratio___str__ : Fn := shut (mkFn 1 1 mm_Ratio___str__)
theorem q_Ratio___str__ : F_Ratio___str__ = mkFn 1 1 mm_Ratio___str__ := shut_eq _
noncomputable def mt_Ratio___init___1 : Sv :=
  (sSeq (sFld 0 0 (eBin fdivD (eVar 1) (eVar 3)))
  (sFld 0 1 (eBin fdivD (eVar 2) (eVar 3))))
noncomputable def mt_Ratio___init___2 : Sv :=
  (sSeq (sAsg true 3 (eN F_shared_factor [(eVar 1), (eVar 2)]))
  mt_Ratio___init___1)
noncomputable def mt_Ratio___init___3 : Sv :=
  (sSeq (sIf (eOr (eNot (eN F_is_integer [(eVar 2)])) (eBin ltD (eVar 2) (eC (.int 1)))) sNo sNext)
  mt_Ratio___init___2)
noncomputable def mm_Ratio___init__ : Sv :=
  (sSeq (sIf (eNot (eN F_is_integer [(eVar 1)])) sNo sNext)
  mt_Ratio___init___3)
noncomputable def F_Ratio___init__ : FnR := shut (mkFnR 4 3 0 mm_Ratio___init__)
theorem q_Ratio___init__ : F_Ratio___init__ = mkFnR 4 3 0 mm_Ratio___init__ := shut_eq _
theorem hi_Ratio___init__ : ∀ ds d r, F_Ratio___init__ ds d = .ok r → ds.length + 1 = 3 := by rw [q_Ratio___init__]; exact mkFnR_len
noncomputable def mm_more_of : Sv :=
  (sRet (eIf (eN F_is_integer [(eVar 0)]) (eN (fun xs => mkObj 0 F_Ratio___init__ (xs ++ [.int 1])) [(eVar 0)]) (eN (fun xs => mkObj 0 F_Ratio___init__ (xs ++ [])) [(eBor ixD 0 (eC (.int 0))), (eBor ixD 0 (eC (.int 1)))])))
noncomputable def F_more_of : Fn := shut (mkFn 1 1 mm_more_of)
theorem q_more_of : F_more_of = mkFn 1 1 mm_more_of := shut_eq _
theorem hl_more_of : ∀ ds r, F_more_of ds = .ok r → ds.length = 1 := by rw [q_more_of]; exact mkFn_len
noncomputable def mm_text_of_level : Sv :=
  (sSeq (sIf (eBin (eqD no2) (eBor ixD 0 (eC (.int 0))) (eC (.str [102, 108, 111, 111, 114]))) (sRet (eC (.str [102, 108, 111, 111, 114]))) sNext)
  (sRet (eIf (eBin (eqD no2) (eBor ixD 0 (eC (.int 0))) (eC (.str [108, 101, 110, 103, 116, 104]))) (eBor ixD 0 (eC (.int 1))) (eN fcat [(eUn fmtD (eBor ixD 0 (eC (.int 1)))), (eC (.str [64])), (eUn fmtD (eBor ixD 0 (eC (.int 2))))]))))
noncomputable def F_text_of_level : Fn := shut (mkFn 1 1 mm_text_of_level)
theorem q_text_of_level : F_text_of_level = mkFn 1 1 mm_text_of_level := shut_eq _
theorem hl_text_of_level : ∀ ds r, F_text_of_level ds = .ok r → ds.length = 1 := by rw [q_text_of_level]; exact mkFn_len
def F_text_of_r0 : Fn := fun _ => .no
theorem hl_text_of_r0 : ∀ ds r, F_text_of_r0 ds = .ok r → ds.length = 1 := fun _ _ h => by cases h
noncomputable def mm_text_of (Frec : Fn) : Sv :=
  (sSeq (sIf (eBin (eqD no2) (eBor ixD 0 (eC (.int 0))) (eC (.str [111, 118, 101, 114]))) (sSeq (sAsg true 1 (eBin (addD no2) (eBin (addD no2) (eN F_text_of_level [(eBor ixD 0 (eC (.int 1)))]) (eC (.str [32]))) (eN F_text_of_level [(eBor ixD 0 (eC (.int 2)))])))
  (sRet (eBin (addD no2) (eBin (addD no2) (eBin (addD no2) (eBin (addD no2) (eC (.str [40, 111, 118, 101, 114, 32])) (eVar 1)) (eC (.str [32]))) (eN (strD (sel1 (isC 0) (fun x => strG (F_Ratio___str__ [x])) no1)) [(eN F_more_of [(eBor ixD 0 (eC (.int 3)))])])) (eC (.str [41]))))) sNext)
  (sRet (eBin (addD no2) (eBin (addD no2) (eC (.str [40])) (eBin joinB (eC (.str [32])) (eBin (addD no2) (eN mkLst [(eBor ixD 0 (eC (.int 0)))]) (eLc (iVal (eSlice (eVar 0) (some (eC (.int 1))) none)) (gN 2) none (eN Frec [(eVar 2)]) [2])))) (eC (.str [41])))))
noncomputable def F_text_of_r1 : Fn := shut (mkFn 3 1 (mm_text_of F_text_of_r0))
theorem q_text_of_r1 : F_text_of_r1 = mkFn 3 1 (mm_text_of F_text_of_r0) := shut_eq _
theorem hl_text_of_r1 : ∀ ds r, F_text_of_r1 ds = .ok r → ds.length = 1 := by rw [q_text_of_r1]; exact mkFn_len
noncomputable def F_text_of_r2 : Fn := shut (mkFn 3 1 (mm_text_of F_text_of_r1))
theorem q_text_of_r2 : F_text_of_r2 = mkFn 3 1 (mm_text_of F_text_of_r1) := shut_eq _
theorem hl_text_of_r2 : ∀ ds r, F_text_of_r2 ds = .ok r → ds.length = 1 := by rw [q_text_of_r2]; exact mkFn_len
noncomputable def F_text_of_r3 : Fn := shut (mkFn 3 1 (mm_text_of F_text_of_r2))
theorem q_text_of_r3 : F_text_of_r3 = mkFn 3 1 (mm_text_of F_text_of_r2) := shut_eq _
theorem hl_text_of_r3 : ∀ ds r, F_text_of_r3 ds = .ok r → ds.length = 1 := by rw [q_text_of_r3]; exact mkFn_len
noncomputable def mm_Wish___str__ : Sv :=
  (sRet (eUn fmtD (eN F_text_of_r3 [(eUn (fldD 5 0) (eVar 0))])))
noncomputable def F_Wish___str__ : Fn := shut (mkFn 1 1 mm_Wish___str__)
theorem q_Wish___str__ : F_Wish___str__ = mkFn 1 1 mm_Wish___str__ := shut_eq _
def F_form_in_r0 : Fn := fun _ => .no
theorem hl_form_in_r0 : ∀ ds r, F_form_in_r0 ds = .ok r → ds.length = 2 := fun _ _ h => by cases h
noncomputable def mt_level_in_1 : Sv :=
  (sSeq (sAsg true 4 (eIf (eBin (eqD no2) (eVar 3) (eC (.str [108, 97, 115, 116]))) (eC (.str [108, 97, 115, 116])) (eIf (eBin inD (eVar 3) (eN listSD [(eC (.str [48, 49, 50, 51, 52, 53, 54]))])) (eN intSD [(eVar 3)]) (eC .non))))
  (sRet (eN mkTup [(eIf (eN F_are_great [(eVar 1), (eC (.int 1)), (eC (.int 1))]) (eC (.str [104, 111, 111, 107])) (eC (.str [112, 97, 114, 116]))), (eVar 1), (eVar 4)])))
noncomputable def mt_level_in_2 : Sv :=
  (sSeq (sIf (eBin (eqD no2) (eVar 2) (eC (.str []))) (sRet (eN mkTup [(eC (.str [108, 101, 110, 103, 116, 104])), (eVar 1)])) sNext)
  mt_level_in_1)
noncomputable def mt_level_in_3 : Sv :=
  (sSeq (sAsgT (gT [(gN 1), (gN 2), (gN 3)]) (eBin partD (eVar 0) (eC (.str [64]))))
  mt_level_in_2)
noncomputable def mm_level_in : Sv :=
  (sSeq (sIf (eBin (eqD no2) (eVar 0) (eC (.str [102, 108, 111, 111, 114]))) (sRet (eN mkTup [(eC (.str [102, 108, 111, 111, 114]))])) sNext)
  mt_level_in_3)
noncomputable def F_level_in : Fn := shut (mkFn 5 1 mm_level_in)
theorem q_level_in : F_level_in = mkFn 5 1 mm_level_in := shut_eq _
theorem hl_level_in : ∀ ds r, F_level_in ds = .ok r → ds.length = 1 := by rw [q_level_in]; exact mkFn_len
noncomputable def mm_is_written : Sv :=
  (sSeq (sIf (eOr (eBin (eqD no2) (eVar 0) (eC (.str []))) (eNot (eN allD [(eLc (iVal (eVar 0)) (gN 1) none (eBin inD (eVar 1) (eC (.str [48, 49, 50, 51, 52, 53, 54, 55, 56, 57]))) [1])]))) (sRet (eC (.bl false))) sNext)
  (sRet (eOr (eBin (eqD no2) (eVar 0) (eC (.str [48]))) (eBin (neD no2) (eBor ixD 0 (eC (.int 0))) (eC (.str [48]))))))
noncomputable def F_is_written : Fn := shut (mkFn 2 1 mm_is_written)
theorem q_is_written : F_is_written = mkFn 2 1 mm_is_written := shut_eq _
theorem hl_is_written : ∀ ds r, F_is_written ds = .ok r → ds.length = 1 := by rw [q_is_written]; exact mkFn_len
noncomputable def mt_ratio_in_1 : Sv :=
  (sSeq (sAsg true 5 (eIf (eBin (neD no2) (eVar 3) (eC (.str []))) (eN intSD [(eVar 4)]) (eC (.int 1))))
  (sRet (eIf (eBin gtD (eVar 5) (eC (.int 0))) (eN (fun xs => mkObj 0 F_Ratio___init__ (xs ++ [])) [(eBin (mulD no2) (eVar 1) (eN intSD [(eVar 2)])), (eVar 5)]) (eC .non))))
noncomputable def mt_ratio_in_2 : Sv :=
  (sSeq (sIf (eOr (eNot (eN F_is_written [(eVar 2)])) (eAnd (eBin (neD no2) (eVar 3) (eC (.str []))) (eNot (eN F_is_written [(eVar 4)])))) (sRet (eC .non)) sNext)
  mt_ratio_in_1)
noncomputable def mt_ratio_in_3 : Sv :=
  (sSeq (sAsgT (gT [(gN 2), (gN 3), (gN 4)]) (eIf (eBin ltD (eVar 1) (eC (.int 0))) (eBin partD (eSlice (eVar 0) (some (eC (.int 1))) none) (eC (.str [47]))) (eBin partD (eVar 0) (eC (.str [47])))))
  mt_ratio_in_2)
noncomputable def mm_ratio_in : Sv :=
  (sSeq (sAsg true 1 (eIf (eBin (eqD no2) (eSlice (eVar 0) none (some (eC (.int 1)))) (eC (.str [45]))) (eUn (negD no1) (eC (.int 1))) (eC (.int 1))))
  mt_ratio_in_3)
noncomputable def F_ratio_in : Fn := shut (mkFn 6 1 mm_ratio_in)
theorem q_ratio_in : F_ratio_in = mkFn 6 1 mm_ratio_in := shut_eq _
theorem hl_ratio_in : ∀ ds r, F_ratio_in ds = .ok r → ds.length = 1 := by rw [q_ratio_in]; exact mkFn_len
noncomputable def mt_more_in_1 : Sv :=
  (sSeq (sIf (eBin isN (eVar 1) (eC .non)) (sRet (eC .non)) sNext)
  (sRet (eIf (eBin (eqD no2) (eUn (fldD 0 1) (eVar 1)) (eC (.int 1))) (eUn (fldD 0 0) (eVar 1)) (eN mkTup [(eUn (fldD 0 0) (eVar 1)), (eUn (fldD 0 1) (eVar 1))]))))
noncomputable def mm_more_in : Sv :=
  (sSeq (sAsg true 1 (eIf (eN isiD [(eVar 0), (eC (.ty .str))]) (eN F_ratio_in [(eVar 0)]) (eC .non)))
  mt_more_in_1)
noncomputable def F_more_in : Fn := shut (mkFn 2 1 mm_more_in)
theorem q_more_in : F_more_in = mkFn 2 1 mm_more_in := shut_eq _
theorem hl_more_in : ∀ ds r, F_more_in ds = .ok r → ds.length = 1 := by rw [q_more_in]; exact mkFn_len
noncomputable def mt_form_in_1 (Frec : Fn) : Sv :=
  (sSeq (sIf (eBin (eqD no2) (eVar 1) (eC (.int 0))) (sRet (eC .non)) sNext)
  (sRet (eBin (addD no2) (eSlice (eVar 0) none (some (eC (.int 1)))) (eN tupleD [(eLc (iVal (eSlice (eVar 0) (some (eC (.int 1))) none)) (gN 4) none (eN Frec [(eVar 4), (eBin (subD no2) (eVar 1) (eC (.int 1)))]) [4])]))))
noncomputable def mt_form_in_2 (Frec : Fn) : Sv :=
  (sSeq (sIf (eBin (eqD no2) (eBor ixD 0 (eC (.int 0))) (eC (.str [111, 118, 101, 114]))) (sSeq (sAsg true 2 (eLc (iVal (eSlice (eVar 0) (some (eC (.int 1))) (some (eC (.int 3))))) (gN 3) none (eIf (eN isiD [(eVar 3), (eC (.ty .str))]) (eN F_level_in [(eVar 3)]) (eC .non)) [3]))
  (sRet (eBin (addD no2) (eBin (addD no2) (eN mkTup [(eC (.str [111, 118, 101, 114]))]) (eN tupleD [(eVar 2)])) (eN tupleD [(eLc (iVal (eSlice (eVar 0) (some (eC (.int 3))) none)) (gN 3) none (eN F_more_in [(eVar 3)]) [3])])))) sNext)
  (mt_form_in_1 Frec))
noncomputable def mm_form_in (Frec : Fn) : Sv :=
  (sSeq (sIf (eOr (eNot (eN isiD [(eVar 0), (eC (.ty .tuple))])) (eOr (eBin (eqD no2) (eVar 0) (eN mkTup [])) (eNot (eN isiD [(eBor ixD 0 (eC (.int 0))), (eC (.ty .str))])))) (sRet (eC .non)) sNext)
  (mt_form_in_2 Frec))
noncomputable def F_form_in_r1 : Fn := shut (mkFn 5 2 (mm_form_in F_form_in_r0))
theorem q_form_in_r1 : F_form_in_r1 = mkFn 5 2 (mm_form_in F_form_in_r0) := shut_eq _
theorem hl_form_in_r1 : ∀ ds r, F_form_in_r1 ds = .ok r → ds.length = 2 := by rw [q_form_in_r1]; exact mkFn_len
noncomputable def F_form_in_r2 : Fn := shut (mkFn 5 2 (mm_form_in F_form_in_r1))
theorem q_form_in_r2 : F_form_in_r2 = mkFn 5 2 (mm_form_in F_form_in_r1) := shut_eq _
theorem hl_form_in_r2 : ∀ ds r, F_form_in_r2 ds = .ok r → ds.length = 2 := by rw [q_form_in_r2]; exact mkFn_len
noncomputable def F_form_in_r3 : Fn := shut (mkFn 5 2 (mm_form_in F_form_in_r2))
theorem q_form_in_r3 : F_form_in_r3 = mkFn 5 2 (mm_form_in F_form_in_r2) := shut_eq _
theorem hl_form_in_r3 : ∀ ds r, F_form_in_r3 ds = .ok r → ds.length = 2 := by rw [q_form_in_r3]; exact mkFn_len
noncomputable def me_nested_t1 : Ev :=
  (eBin ninD (eVar 3) (eC (.str [40, 41, 32])))
noncomputable def me_nested_e1 : Ev :=
  (eBin (addD no2) (eVar 2) (eVar 3))
noncomputable def me_nested_t2 : Ev :=
  (eBin (neD no2) (eVar 2) (eC (.str [])))
noncomputable def me_nested_t3 : Ev :=
  (eBin (eqD no2) (eVar 3) (eC (.str [40])))
noncomputable def me_nested_t4 : Ev :=
  (eBin (eqD no2) (eVar 3) (eC (.str [41])))
noncomputable def me_nested_t5 : Ev :=
  (eBin (neD no2) (eVar 2) (eC (.str [])))
noncomputable def mi_nested : Iv :=
  (iVal (eVar 0))
def F_nested : Fn := nestF
theorem hl_nested : ∀ ds r, F_nested ds = .ok r → ds.length = 1 := fun _ _ h => nestF_len h
abbrev NestP : Prop := NestOk mi_nested me_nested_t1 me_nested_e1 me_nested_t2 me_nested_t3 me_nested_t4 me_nested_t5
noncomputable def mt_wish_in_1 : Sv :=
  (sSeq (sIf (eOr (eBin isN (eN F_overs_in [(eVar 1)]) (eC .non)) (eBin (neD no2) (eN F_text_of_r3 [(eVar 1)]) (eVar 0))) sNo sNext)
  (sRet (eN (fun xs => mkObj 5 F_Wish___init__ (xs ++ [])) [(eVar 1)])))
noncomputable def mm_wish_in : Sv :=
  (sSeq (sAsg true 1 (eIf (eAnd (eN isiD [(eVar 0), (eC (.ty .str))]) (eBin leD (eBor1 (lenB no1) 0) (eC (.int 2000)))) (eN F_form_in_r3 [(eN F_nested [(eVar 0)]), (eC (.int 4))]) (eC .non)))
  mt_wish_in_1)
noncomputable def F_wish_in : Fn := shut (mkFn 2 1 mm_wish_in)
theorem q_wish_in : F_wish_in = mkFn 2 1 mm_wish_in := shut_eq _
theorem hl_wish_in : ∀ ds r, F_wish_in ds = .ok r → ds.length = 1 := by rw [q_wish_in]; exact mkFn_len
noncomputable def mm_Wish_read : Sv :=
  (sRet (eN F_wish_in [(eVar 0)]))
noncomputable def F_Wish_read : Fn := shut (mkFn 1 1 mm_Wish_read)
theorem q_Wish_read : F_Wish_read = mkFn 1 1 mm_Wish_read := shut_eq _
theorem hl_Wish_read : ∀ ds r, F_Wish_read ds = .ok r → ds.length = 1 := by rw [q_Wish_read]; exact mkFn_len
noncomputable def mt__law_bag_1 : Sv :=
  (sAsg true 3 (eBin modD (eN intD [(eBin (addD no2) (eBin (addD no2) (eBin (mulD no2) (eVar 3) (eC (.int 27449))) (eBin modD (eN intD [(eVar 4)]) (eC (.int 1000081)))) (eBin (mulD no2) (eC (.int 13)) (eVar 1)))]) (eC (.int 2147483563))))
noncomputable def mt__law_bag_2 : Sv :=
  (sSeq (sAsg true 5 (eIf (eOr (eBin ltD (eVar 2) (eC (.int 0))) (eBin geD (eVar 2) (eBin powD (eC (.int 10)) (eC (.int 15))))) (eN absD [(eVar 2)]) (eC (.int 0))))
  (sRet (eN mkLst [(eVar 5), (eBin modD (eN intD [(eBin (addD no2) (eVar 3) (eBin (mulD no2) (eC (.int 39119)) (eBin modD (eN intD [(eVar 2)]) (eC (.int 999907)))))]) (eC (.int 2147483563))), (eC (.int 0))])))
noncomputable def mt__law_bag_3 : Sv :=
  (sSeq (sFor (iVal (eSlice (eVar 0) none (some (eC (.int 7))))) (gN 4) mt__law_bag_1)
  mt__law_bag_2)
noncomputable def mm__law_bag : Sv :=
  (sSeq (sPar true 2 3 (eIf (eBin ltD (eVar 1) (eBor1 (lenB no1) 0)) (eN intD [(eBor ixD 0 (eVar 1))]) (eC (.int 0))) (eBin (mulD no2) (eC (.int 50021)) (eBin (addD no2) (eVar 1) (eC (.int 7)))))
  mt__law_bag_3)
noncomputable def F__law_bag : Fn := shut (mkFn 6 2 mm__law_bag)
theorem q__law_bag : F__law_bag = mkFn 6 2 mm__law_bag := shut_eq _
theorem hl__law_bag : ∀ ds r, F__law_bag ds = .ok r → ds.length = 2 := by rw [q__law_bag]; exact mkFn_len
noncomputable def mm_Wish___eq__ : Sv :=
  (sRet (eAnd (eN isiD [(eVar 1), (eC (.cls 5))]) (eBin (eqD no2) (eUn (fldD 5 0) (eVar 0)) (eUn (fldD 5 0) (eVar 1)))))
noncomputable def F_Wish___eq__ : Fn := shut (mkFn 2 2 mm_Wish___eq__)
theorem q_Wish___eq__ : F_Wish___eq__ = mkFn 2 2 mm_Wish___eq__ := shut_eq _
noncomputable def mt__law_draw_1 : Sv :=
  (sSeq (sPut putM 0 (eC (.int 0)) (eBin fdivD (eBor ixD 0 (eC (.int 0))) (eVar 1)))
  (sRetV 2))
noncomputable def mt__law_draw_2 : Sv :=
  (sSeq (sPut putM 0 (eC (.int 1)) (eBin modD (eN intD [(eBin (addD no2) (eBin (addD no2) (eBin (mulD no2) (eVar 3) (eVar 4)) (eBin (mulD no2) (eC (.int 11)) (eBor ixD 0 (eC (.int 2))))) (eC (.int 17)))]) (eC (.int 2147483563))))
  (sRet (eBin modD (eBin fdivD (eN intD [(eBor ixD 0 (eC (.int 1)))]) (eC (.int 523))) (eVar 1))))
noncomputable def mt__law_draw_3 : Sv :=
  (sSeq (sAsg true 4 (eBin (addD no2) (eBin modD (eN intD [(eVar 3)]) (eC (.int 59951))) (eC (.int 40031))))
  mt__law_draw_2)
noncomputable def mt__law_draw_4 : Sv :=
  (sSeq (sAsg true 3 (eBin (addD no2) (eN intD [(eBor ixD 0 (eC (.int 1)))]) (eBin (mulD no2) (eC (.int 104593)) (eBor ixD 0 (eC (.int 2))))))
  mt__law_draw_3)
noncomputable def mt__law_draw_5 : Sv :=
  (sSeq (sIf (eBin gtD (eBor ixD 0 (eC (.int 0))) (eC (.int 0))) (sSeq (sAsg true 2 (eBin modD (eN intD [(eBor ixD 0 (eC (.int 0)))]) (eVar 1)))
  mt__law_draw_1) sNext)
  mt__law_draw_4)
noncomputable def mm__law_draw : Sv :=
  (sSeq (sPut putM 0 (eC (.int 2)) (eBin (addD no2) (eBor ixD 0 (eC (.int 2))) (eC (.int 1))))
  mt__law_draw_5)
noncomputable def F__law_draw : FnR := shut (mkFnR 5 2 0 mm__law_draw)
theorem q__law_draw : F__law_draw = mkFnR 5 2 0 mm__law_draw := shut_eq _
noncomputable def mm__law_one : Sv :=
  (sRet (eBor ixD 1 (eCallR F__law_draw [] 0 [(eBor1 (lenB no1) 1)])))
noncomputable def F__law_one : FnR := shut (mkFnR 2 2 0 mm__law_one)
theorem q__law_one : F__law_one = mkFnR 2 2 0 mm__law_one := shut_eq _
noncomputable def mt__law_level_1 : Sv :=
  (sSeq (sIf (eBin ltD (eVar 3) (eC (.int 6))) (sRet (eN mkTup [(eC (.str [104, 111, 111, 107])), (eCallR F__law_one [] 0 [(eBor ixD 1 (eC (.int 2)))]), (eVar 4)])) sNext)
  (sRet (eIf (eBin (eqD no2) (eVar 3) (eC (.int 6))) (eN mkTup [(eC (.str [108, 101, 110, 103, 116, 104])), (eBin ixD (eCallR F__law_one [] 0 [(eBor ixD 1 (eC (.int 3)))]) (eC (.int 0)))]) (eN mkTup [(eC (.str [102, 108, 111, 111, 114]))]))))
noncomputable def mt__law_level_2 : Sv :=
  (sSeq (sIf (eBin ltD (eVar 3) (eC (.int 4))) (sRet (eN mkTup [(eC (.str [112, 97, 114, 116])), (eCallR F__law_one [] 0 [(eBor ixD 1 (eC (.int 0)))]), (eVar 4)])) sNext)
  mt__law_level_1)
noncomputable def mm__law_level : Sv :=
  (sSeq (sPar true 3 4 (eCallR F__law_draw [] 0 [(eC (.int 8))]) (eCallR F__law_one [] 0 [(eN mkLst [(eC (.int 0)), (eVar 2), (eCallR F__law_draw [] 0 [(eBin (addD no2) (eVar 2) (eC (.int 1)))]), (eC (.str [108, 97, 115, 116]))])]))
  mt__law_level_2)
noncomputable def F__law_level : FnR := shut (mkFnR 5 3 0 mm__law_level)
theorem q__law_level : F__law_level = mkFnR 5 3 0 mm__law_level := shut_eq _
noncomputable def mm__law_more : Sv :=
  (sRet (eCallR F__law_one [] 0 [(eN mkLst [(eC (.int 0)), (eC (.int 0)), (eC (.int 3)), (eBin (subD no2) (eC (.int 0)) (eC (.int 4))), (eC (.int 12)), (eN mkTup [(eC (.int 1)), (eC (.int 2))]), (eN mkTup [(eBin (subD no2) (eC (.int 0)) (eC (.int 7))), (eC (.int 3))]), (eN mkTup [(eC (.int 5)), (eC (.int 6))]), (eBin (subD no2) (eC (.int 0)) (eC (.int 20))), (eCallR F__law_draw [] 0 [(eC (.int 40))])])]))
noncomputable def F__law_more : FnR := shut (mkFnR 1 1 0 mm__law_more)
theorem q__law_more : F__law_more = mkFnR 1 1 0 mm__law_more := shut_eq _
def F__law_plea_r0 : FnR := fun _ _ => .no
noncomputable def mt__law_plea_1 (Frec : FnR) : Sv :=
  (sSeq (sIf (eBin ltD (eVar 4) (eC (.int 5))) (sRet (eN mkTup [(eBin ixD (eN mkLst [(eC (.str [105, 102])), (eC (.str [97, 110, 100]))]) (eBin (subD no2) (eVar 4) (eC (.int 3)))), (eVar 5), (eCallR Frec [] 0 [(eVar 1), (eVar 2), (eBin (subD no2) (eVar 3) (eC (.int 1)))])])) sNext)
  (sRet (eN mkTup [(eC (.str [111, 114])), (eVar 5), (eCallR Frec [] 0 [(eVar 1), (eVar 2), (eC (.int 0))]), (eCallR Frec [] 0 [(eVar 1), (eVar 2), (eC (.int 0))])])))
noncomputable def mt__law_plea_2 (Frec : FnR) : Sv :=
  (sSeq (sAsg true 5 (eCallR Frec [] 0 [(eVar 1), (eVar 2), (eBin (subD no2) (eVar 3) (eC (.int 1)))]))
  (mt__law_plea_1 Frec))
noncomputable def mt__law_plea_3 (Frec : FnR) : Sv :=
  (sSeq (sIf (eBin (eqD no2) (eVar 4) (eC (.int 2))) (sRet (eN mkTup [(eC (.str [110, 111, 116])), (eCallR Frec [] 0 [(eVar 1), (eVar 2), (eBin (subD no2) (eVar 3) (eC (.int 1)))])])) sNext)
  (mt__law_plea_2 Frec))
noncomputable def mt__law_plea_4 (Frec : FnR) : Sv :=
  (sSeq (sIf (eBin ltD (eVar 4) (eC (.int 2))) (sRet (eN mkTup [(eC (.str [111, 118, 101, 114])), (eCallR F__law_level [] 0 [(eVar 1), (eVar 2)]), (eCallR F__law_level [] 0 [(eVar 1), (eVar 2)]), (eCallR F__law_more [] 0 [])])) sNext)
  (mt__law_plea_3 Frec))
noncomputable def mm__law_plea (Frec : FnR) : Sv :=
  (sSeq (sAsg true 4 (eIf (eBin gtD (eVar 3) (eC (.int 0))) (eCallR F__law_draw [] 0 [(eC (.int 7))]) (eC (.int 0))))
  (mt__law_plea_4 Frec))
noncomputable def F__law_plea_r1 : FnR := shut (mkFnR 6 4 0 (mm__law_plea F__law_plea_r0))
theorem q__law_plea_r1 : F__law_plea_r1 = mkFnR 6 4 0 (mm__law_plea F__law_plea_r0) := shut_eq _
noncomputable def F__law_plea_r2 : FnR := shut (mkFnR 6 4 0 (mm__law_plea F__law_plea_r1))
theorem q__law_plea_r2 : F__law_plea_r2 = mkFnR 6 4 0 (mm__law_plea F__law_plea_r1) := shut_eq _
noncomputable def F__law_plea_r3 : FnR := shut (mkFnR 6 4 0 (mm__law_plea F__law_plea_r2))
theorem q__law_plea_r3 : F__law_plea_r3 = mkFnR 6 4 0 (mm__law_plea F__law_plea_r2) := shut_eq _
noncomputable def mt__law_cords_1 : Sv :=
  (sIf (eAnd (eBin ltD (eCallR F__law_draw [] 0 [(eC (.int 5))]) (eC (.int 3))) (eBin ltD (eBor1 (lenB no1) 2) (eC (.int 10)))) (sSeq (sAsg true 5 (eIf (eBin (eqD no2) (eCallR F__law_draw [] 0 [(eC (.int 2))]) (eC (.int 0))) (eN mkTup [(eBor ixD 1 (eVar 4)), (eBor ixD 1 (eVar 3))]) (eN mkTup [(eBor ixD 1 (eVar 3)), (eBor ixD 1 (eVar 4))])))
  (sExpr (eMut appendM 2 [(eBin (addD no2) (eVar 5) (eN mkTup [(eCallR F__law_one [] 0 [(eN mkLst [(eC (.int 0)), (eC (.int 1)), (eC (.int 2)), (eC (.int 3)), (eC (.int 5)), (eC (.int 8)), (eC (.int 20))])])]))]))) sNext)
noncomputable def mt__law_cords_2 : Sv :=
  (sFor (iRange [(eVar 3)]) (gN 4) mt__law_cords_1)
noncomputable def mt__law_cords_3 : Sv :=
  (sSeq (sFor (iRange [(eBor1 (lenB no1) 1)]) (gN 3) mt__law_cords_2)
  (sRet (eN tupleD [(eVar 2)])))
noncomputable def mm__law_cords : Sv :=
  (sSeq (sAsg true 2 (eN mkLst []))
  mt__law_cords_3)
noncomputable def F__law_cords : FnR := shut (mkFnR 6 2 0 mm__law_cords)
theorem q__law_cords : F__law_cords = mkFnR 6 2 0 mm__law_cords := shut_eq _
noncomputable def mt__law_letters_1 : Sv :=
  (sExpr (eMut appendM 4 [(eMut popM 3 [(eCallR F__law_draw [] 0 [(eBor1 (lenB no1) 3)])])]))
noncomputable def mt__law_letters_2 : Sv :=
  (sSeq (sFor (iRange [(eVar 2)]) (gN 5) mt__law_letters_1)
  (sRet (eBin joinB (eC (.str [])) (eN sortedD [(eVar 4)]))))
noncomputable def mm__law_letters : Sv :=
  (sSeq (sPar true 3 4 (eN listSD [(eVar 1)]) (eN mkLst []))
  mt__law_letters_2)
noncomputable def F__law_letters : FnR := shut (mkFnR 6 3 0 mm__law_letters)
theorem q__law_letters : F__law_letters = mkFnR 6 3 0 mm__law_letters := shut_eq _
noncomputable def mt__law_words_1 : Sv :=
  (sSeq (sIf (eBorR inD (eVar 4) 2) (sAsg true 4 (eBin (addD no2) (eSlice (eVar 4) none (some (eC (.int 7)))) (eBin ixD (eC (.str [102, 103, 105, 106, 113, 118, 120])) (eVar 3)))) sNext)
  (sExpr (eMut appendM 2 [(eVar 4)])))
noncomputable def mt__law_words_2 : Sv :=
  (sSeq (sAsg true 4 (eBin joinB (eC (.str [])) (eLc (iRange [(eBin (addD no2) (eC (.int 2)) (eCallR F__law_draw [] 0 [(eC (.int 6))]))]) (gN 5) none (eCallR F__law_one [] 0 [(eC (.str [97, 98, 99, 100, 101, 104, 107, 108, 109, 110, 111, 112, 114, 115, 116, 117, 119, 121, 122]))]) [5])))
  mt__law_words_1)
noncomputable def mt__law_words_3 : Sv :=
  (sSeq (sFor (iRange [(eVar 1)]) (gN 3) mt__law_words_2)
  (sRet (eN tupleD [(eVar 2)])))
noncomputable def mm__law_words : Sv :=
  (sSeq (sAsg true 2 (eN mkLst []))
  mt__law_words_3)
noncomputable def F__law_words : FnR := shut (mkFnR 6 2 0 mm__law_words)
theorem q__law_words : F__law_words = mkFnR 6 2 0 mm__law_words := shut_eq _
noncomputable def mt__law_shape_1 : Sv :=
  (sSeq (sAsg true 4 (eN tupleD [(eLc (iVal (eVar 3)) (gN 5) none (eN mkTup [(eVar 5), (eCallR F__law_one [] 0 [(eVar 2)]), (eCallR F__law_one [] 0 [(eVar 1)])]) [5])]))
  (sRet (eN mkTup [(eVar 1), (eCallR F__law_cords [] 0 [(eVar 1)]), (eVar 2), (eVar 4)])))
noncomputable def mt__law_shape_2 : Sv :=
  (sSeq (sAsg true 3 (eCallR F__law_letters [] 0 [(eC (.str [97, 98, 99, 101, 102, 103, 109, 110, 120, 121, 122])), (eBin (addD no2) (eC (.int 1)) (eCallR F__law_draw [] 0 [(eC (.int 4))]))]))
  mt__law_shape_1)
noncomputable def mt__law_shape_3 : Sv :=
  (sSeq (sAsg true 2 (eCallR F__law_letters [] 0 [(eC (.str [65, 68, 70, 72, 75, 77, 80, 82, 83, 84, 87])), (eBin (addD no2) (eC (.int 1)) (eCallR F__law_draw [] 0 [(eC (.int 3))]))]))
  mt__law_shape_2)
noncomputable def mm__law_shape : Sv :=
  (sSeq (sAsg true 1 (eCallR F__law_words [] 0 [(eBin (addD no2) (eC (.int 1)) (eCallR F__law_draw [] 0 [(eC (.int 4))]))]))
  mt__law_shape_3)
noncomputable def F__law_shape : FnR := shut (mkFnR 6 1 0 mm__law_shape)
theorem q__law_shape : F__law_shape = mkFnR 6 1 0 mm__law_shape := shut_eq _
noncomputable def mm__law_level_text : Sv :=
  (sSeq (sIf (eBin (eqD no2) (eVar 0) (eN mkTup [(eC (.str [102, 108, 111, 111, 114]))])) (sRet (eC (.str [102, 108, 111, 111, 114]))) sNext)
  (sRet (eIf (eBin (eqD no2) (eBor ixD 0 (eC (.int 0))) (eC (.str [108, 101, 110, 103, 116, 104]))) (eBor ixD 0 (eC (.int 1))) (eBin (addD no2) (eBin (addD no2) (eBor ixD 0 (eC (.int 1))) (eC (.str [64]))) (eN (strD no1) [(eBor ixD 0 (eC (.int 2)))])))))
noncomputable def F__law_level_text : Fn := shut (mkFn 1 1 mm__law_level_text)
theorem q__law_level_text : F__law_level_text = mkFn 1 1 mm__law_level_text := shut_eq _
theorem hl__law_level_text : ∀ ds r, F__law_level_text ds = .ok r → ds.length = 1 := by rw [q__law_level_text]; exact mkFn_len
def F__law_written_r0 : Fn := fun _ => .no
theorem hl__law_written_r0 : ∀ ds r, F__law_written_r0 ds = .ok r → ds.length = 1 := fun _ _ h => by cases h
noncomputable def mt__law_written_1 (Frec : Fn) : Sv :=
  (sSeq (sAsg true 3 (eN mkLst [(eN F__law_level_text [(eBor ixD 0 (eC (.int 1)))]), (eN F__law_level_text [(eBor ixD 0 (eC (.int 2)))])]))
  (sRet (eBin (addD no2) (eBin (addD no2) (eC (.str [40, 111, 118, 101, 114, 32])) (eBin joinB (eC (.str [32])) (eBin (addD no2) (eVar 3) (eN mkLst [(eVar 2)])))) (eC (.str [41])))))
noncomputable def mt__law_written_2 (Frec : Fn) : Sv :=
  (sSeq (sAsg true 2 (eIf (eBin (eqD no2) (eBor ixD 1 (eC (.int 1))) (eC (.int 1))) (eN (strD no1) [(eBor ixD 1 (eC (.int 0)))]) (eBin (addD no2) (eBin (addD no2) (eN (strD no1) [(eBor ixD 1 (eC (.int 0)))]) (eC (.str [47]))) (eN (strD no1) [(eBor ixD 1 (eC (.int 1)))]))))
  (mt__law_written_1 Frec))
noncomputable def mm__law_written (Frec : Fn) : Sv :=
  (sSeq (sIf (eBin (eqD no2) (eBor ixD 0 (eC (.int 0))) (eC (.str [111, 118, 101, 114]))) (sSeq (sAsg true 1 (eIf (eN isiD [(eBor ixD 0 (eC (.int 3))), (eC (.ty .tuple))]) (eBor ixD 0 (eC (.int 3))) (eN mkTup [(eBor ixD 0 (eC (.int 3))), (eC (.int 1))])))
  (mt__law_written_2 Frec)) sNext)
  (sRet (eBin (addD no2) (eBin (addD no2) (eC (.str [40])) (eBin joinB (eC (.str [32])) (eBin (addD no2) (eN mkLst [(eBor ixD 0 (eC (.int 0)))]) (eLc (iVal (eSlice (eVar 0) (some (eC (.int 1))) none)) (gN 4) none (eN Frec [(eVar 4)]) [4])))) (eC (.str [41])))))
noncomputable def F__law_written_r1 : Fn := shut (mkFn 5 1 (mm__law_written F__law_written_r0))
theorem q__law_written_r1 : F__law_written_r1 = mkFn 5 1 (mm__law_written F__law_written_r0) := shut_eq _
theorem hl__law_written_r1 : ∀ ds r, F__law_written_r1 ds = .ok r → ds.length = 1 := by rw [q__law_written_r1]; exact mkFn_len
noncomputable def F__law_written_r2 : Fn := shut (mkFn 5 1 (mm__law_written F__law_written_r1))
theorem q__law_written_r2 : F__law_written_r2 = mkFn 5 1 (mm__law_written F__law_written_r1) := shut_eq _
theorem hl__law_written_r2 : ∀ ds r, F__law_written_r2 ds = .ok r → ds.length = 1 := by rw [q__law_written_r2]; exact mkFn_len
noncomputable def F__law_written_r3 : Fn := shut (mkFn 5 1 (mm__law_written F__law_written_r2))
theorem q__law_written_r3 : F__law_written_r3 = mkFn 5 1 (mm__law_written F__law_written_r2) := shut_eq _
theorem hl__law_written_r3 : ∀ ds r, F__law_written_r3 ds = .ok r → ds.length = 1 := by rw [q__law_written_r3]; exact mkFn_len
noncomputable def mt__law_right_1 : Sv :=
  (sSeq (sIf (eBin (neD (sel (cany 5) (fun x y => F_Wish___eq__ [x, y]) no2)) (eVar 8) (eN mkLst [(eVar 4), (eC (.bl true)), (eC (.bl true)), (eC (.bl false))])) (sRet (eC (.bl false))) sNext)
  (sExpr (eMut appendM 2 [(eVar 6)])))
noncomputable def mt__law_right_2 : Sv :=
  (sSeq (sAsg true 8 (eN mkLst [(eUn (fldD 5 0) (eVar 7)), (eBin (eqD (sel (cany 5) (fun x y => F_Wish___eq__ [x, y]) no2)) (eNK F_Wish_read (prm [0]) [] [(eVar 5)]) (eVar 6)), (eBin (eqD (sel (cany 5) (fun x y => F_Wish___eq__ [x, y]) no2)) (eNK (mkObj 5 F_Wish___init__) (prm [0]) [] [(eVar 4)]) (eVar 7)), (eBin (eqD (sel (cany 5) (fun x y => F_Wish___eq__ [x, y]) no2)) (eVar 6) (eVar 4))]))
  mt__law_right_1)
noncomputable def mt__law_right_3 : Sv :=
  (sSeq (sAsg true 7 (eN F_Wish_read [(eVar 5)]))
  mt__law_right_2)
noncomputable def mt__law_right_4 : Sv :=
  (sSeq (sIf (eBin (neD (sel (cany 5) (fun x y => F_Wish___eq__ [x, y]) no2)) (eN mkLst [(eUn (fldD 5 0) (eVar 6)), (eN (strD (sel1 (isC 5) (fun x => strG (F_Wish___str__ [x])) no1)) [(eVar 6)]), (eN (strD (sel1 (isC 5) (fun x => strG (F_Wish___str__ [x])) no1)) [(eVar 6)])]) (eN mkLst [(eVar 4), (eVar 5), (eVar 5)])) (sRet (eC (.bl false))) sNext)
  mt__law_right_3)
noncomputable def mt__law_right_5 : Sv :=
  (sSeq (sPar true 5 6 (eN F__law_written_r3 [(eVar 4)]) (eN (fun xs => mkObj 5 F_Wish___init__ (xs ++ [])) [(eVar 4)]))
  mt__law_right_4)
noncomputable def mt__law_right_6 : Sv :=
  (sSeq (sAsg true 4 (eCallR F__law_plea_r3 [] 0 [(eVar 1), (eC (.int 6)), (eCallR F__law_draw [] 0 [(eC (.int 3))])]))
  mt__law_right_5)
noncomputable def mt__law_right_7 : Sv :=
  (sIf (eBin (neD (sel (cany 5) (fun x y => F_Wish___eq__ [x, y]) no2)) (eLc (iVal (eVar 2)) (gN 10) none (eBin (eqD (sel (cany 5) (fun x y => F_Wish___eq__ [x, y]) no2)) (eVar 9) (eVar 10)) [10]) (eLc (iVal (eVar 2)) (gN 10) none (eBin (eqD (sel (cany 5) (fun x y => F_Wish___eq__ [x, y]) no2)) (eUn (fldD 5 0) (eVar 9)) (eUn (fldD 5 0) (eVar 10))) [10])) (sRet (eC (.bl false))) sNext)
noncomputable def mt__law_right_8 : Sv :=
  (sSeq (sFor (iVal (eVar 2)) (gN 9) mt__law_right_7)
  (sRet (eC (.bl true))))
noncomputable def mt__law_right_9 : Sv :=
  (sSeq (sFor (iRange [(eC (.int 6))]) (gN 3) mt__law_right_6)
  mt__law_right_8)
noncomputable def mm__law_right : Sv :=
  (sSeq (sPar true 1 2 (eCallR F__law_shape [] 0 []) (eN mkLst []))
  mt__law_right_9)
noncomputable def F__law_right : FnR := shut (mkFnR 11 1 0 mm__law_right)
theorem q__law_right : F__law_right = mkFnR 11 1 0 mm__law_right := shut_eq _
noncomputable def mt_law_1 : Sv :=
  (sSeq (sIf (eOr (eBin (neD no2) (eUn (fldD 5 0) (eN F_Wish_read [(eVar 2)])) (eVar 1)) (eBin (neD no2) (eN (strD (sel1 (isC 5) (fun x => strG (F_Wish___str__ [x])) no1)) [(eN (fun xs => mkObj 5 F_Wish___init__ (xs ++ [])) [(eVar 1)])]) (eVar 2))) (sRet (eC (.bl false))) sNext)
  (sRet (eN allD [(eLc (iRange [(eN maxD [(eC (.int 2)), (eN minD [(eBor1 (lenB no1) 0), (eC (.int 6))])])]) (gN 3) none (eCallT F__law_right [] (eN F__law_bag [(eVar 0), (eVar 3)])) [3])])))
noncomputable def mt_law_2 : Sv :=
  (sSeq (sAsg true 1 (eN mkTup [(eC (.str [105, 102])), (eN mkTup [(eC (.str [111, 118, 101, 114])), (eN mkTup [(eC (.str [104, 111, 111, 107])), (eC (.str [65])), (eC (.str [108, 97, 115, 116]))]), (eN mkTup [(eC (.str [102, 108, 111, 111, 114]))]), (eC (.int 7))]), (eN mkTup [(eC (.str [111, 114])), (eN mkTup [(eC (.str [111, 118, 101, 114])), (eN mkTup [(eC (.str [102, 108, 111, 111, 114]))]), (eN mkTup [(eC (.str [108, 101, 110, 103, 116, 104])), (eC (.str [98]))]), (eC (.int 0))]), (eN mkTup [(eC (.str [111, 118, 101, 114])), (eN mkTup [(eC (.str [112, 97, 114, 116])), (eC (.str [108, 97, 115, 116])), (eC (.int 0))]), (eN mkTup [(eC (.str [112, 97, 114, 116])), (eC (.str [102, 108, 111, 111, 114])), (eC (.str [108, 97, 115, 116]))]), (eBin (subD no2) (eC (.int 0)) (eC (.int 1)))]), (eN mkTup [(eC (.str [111, 118, 101, 114])), (eN mkTup [(eC (.str [112, 97, 114, 116])), (eC (.str [104, 97, 110, 100])), (eC (.int 6))]), (eN mkTup [(eC (.str [104, 111, 111, 107])), (eC (.str [65])), (eC (.int 0))]), (eN mkTup [(eC (.int 1)), (eC (.int 2))])])])]))
  mt_law_1)
noncomputable def mt_law_3 : Sv :=
  (sSeq (sAsg true 2 (eC (.str [40, 105, 102, 32, 40, 111, 118, 101, 114, 32, 65, 64, 108, 97, 115, 116, 32, 102, 108, 111, 111, 114, 32, 55, 41, 32, 40, 111, 114, 32, 40, 111, 118, 101, 114, 32, 102, 108, 111, 111, 114, 32, 98, 32, 48, 41, 32, 40, 111, 118, 101, 114, 32, 108, 97, 115, 116, 64, 48, 32, 102, 108, 111, 111, 114, 64, 108, 97, 115, 116, 32, 45, 49, 41, 32, 40, 111, 118, 101, 114, 32, 104, 97, 110, 100, 64, 54, 32, 65, 64, 48, 32, 49, 47, 50, 41, 41, 41])))
  mt_law_2)
noncomputable def mt_law_4 : Sv :=
  (sSeq (sIf (eOr (eBin (neD no2) (eN (strD (sel1 (isC 5) (fun x => strG (F_Wish___str__ [x])) no1)) [(eN (fun xs => mkObj 5 F_Wish___init__ (xs ++ [])) [(eVar 1)])]) (eC (.str [40, 110, 111, 116, 32, 40, 111, 118, 101, 114, 32, 102, 111, 111, 116, 64, 50, 32, 97, 32, 45, 51, 47, 50, 41, 41]))) (eBin (neD no2) (eUn (fldD 5 0) (eN F_Wish_read [(eC (.str [40, 110, 111, 116, 32, 40, 111, 118, 101, 114, 32, 102, 111, 111, 116, 64, 50, 32, 97, 32, 45, 51, 47, 50, 41, 41]))])) (eVar 1))) (sRet (eC (.bl false))) sNext)
  mt_law_3)
noncomputable def mm_law : Sv :=
  (sSeq (sAsg true 1 (eN mkTup [(eC (.str [110, 111, 116])), (eN mkTup [(eC (.str [111, 118, 101, 114])), (eN mkTup [(eC (.str [112, 97, 114, 116])), (eC (.str [102, 111, 111, 116])), (eC (.int 2))]), (eN mkTup [(eC (.str [108, 101, 110, 103, 116, 104])), (eC (.str [97]))]), (eN mkTup [(eBin (subD no2) (eC (.int 0)) (eC (.int 3))), (eC (.int 2))])])]))
  mt_law_4)
noncomputable def F_law : Fn := shut (mkFn 4 1 mm_law)
theorem q_law : F_law = mkFn 4 1 mm_law := shut_eq _
end DY

set_option Elab.async false
set_option linter.all false
set_option maxRecDepth 100000
set_option maxHeartbeats 4000000
namespace DY
theorem u_mm_are_great {ρ : Env} : mm_are_great ρ = (sSeq (sIf (eOr (eNot (eN isiD [(eVar 0), (eC (.ty .str))])) (eNot (eChain leD leD (eVar 1) (eBor1 (lenB no1) 0) (eVar 2)))) (sRet (eC (.bl false))) sNext) (sRet (eN allD [(eLc (iVal (eVar 0)) (gN 3) none (eChain leD leD (eC (.str [65])) (eVar 3) (eC (.str [90]))) [3])]))) ρ := rfl
theorem u_mm_are_small {ρ : Env} : mm_are_small ρ = (sSeq (sIf (eOr (eNot (eN isiD [(eVar 0), (eC (.ty .str))])) (eNot (eChain leD leD (eVar 1) (eBor1 (lenB no1) 0) (eVar 2)))) (sRet (eC (.bl false))) sNext) (sRet (eN allD [(eLc (iVal (eVar 0)) (gN 3) none (eChain leD leD (eC (.str [97])) (eVar 3) (eC (.str [122]))) [3])]))) ρ := rfl
theorem u_mm_is_integer {ρ : Env} : mm_is_integer ρ = (sRet (eAnd (eN isiD [(eVar 0), (eC (.ty .int))]) (eNot (eN isiD [(eVar 0), (eC (.ty .bool))])))) ρ := rfl
theorem u_mm_is_number {ρ : Env} : mm_is_number ρ = (sRet (eAnd (eN F_is_integer [(eVar 0)]) (eAnd (eBin geD (eVar 0) (eC (.int 0))) (eOr (eBin isN (eVar 1) (eC .non)) (eBin leD (eVar 0) (eVar 1)))))) ρ := rfl
theorem u_mm_is_moment {ρ : Env} : mm_is_moment ρ = (sRet (eOr (eN F_is_number [(eVar 0), (eVar 1)]) (eAnd (eN isiD [(eVar 0), (eC (.ty .str))]) (eBin (eqD no2) (eVar 0) (eC (.str [108, 97, 115, 116])))))) ρ := rfl
theorem u_mt_is_level_1 {ρ : Env} : mt_is_level_1 ρ = (sSeq (sIf (eOr (eBin (neD no2) (eBor1 (lenB no1) 0) (eC (.int 3))) (eNot (eN F_is_moment [(eBor ixD 0 (eC (.int 2))), (eC (.int 6))]))) (sRet (eC (.bl false))) sNext) (sRet (eOr (eAnd (eBin (eqD no2) (eBor ixD 0 (eC (.int 0))) (eC (.str [104, 111, 111, 107]))) (eN F_are_great [(eBor ixD 0 (eC (.int 1))), (eC (.int 1)), (eC (.int 1))])) (eAnd (eBin (eqD no2) (eBor ixD 0 (eC (.int 0))) (eC (.str [112, 97, 114, 116]))) (eN F_are_small [(eBor ixD 0 (eC (.int 1))), (eC (.int 2)), (eC (.int 8))]))))) ρ := rfl
theorem u_mt_is_level_2 {ρ : Env} : mt_is_level_2 ρ = (sSeq (sIf (eBin (eqD no2) (eBor ixD 0 (eC (.int 0))) (eC (.str [108, 101, 110, 103, 116, 104]))) (sRet (eAnd (eBin (eqD no2) (eBor1 (lenB no1) 0) (eC (.int 2))) (eN F_are_small [(eBor ixD 0 (eC (.int 1))), (eC (.int 1)), (eC (.int 1))]))) sNext) mt_is_level_1) ρ := rfl
theorem u_mt_is_level_3 {ρ : Env} : mt_is_level_3 ρ = (sSeq (sIf (eBin (eqD no2) (eBor ixD 0 (eC (.int 0))) (eC (.str [102, 108, 111, 111, 114]))) (sRet (eBin (eqD no2) (eBor1 (lenB no1) 0) (eC (.int 1)))) sNext) mt_is_level_2) ρ := rfl
theorem u_mm_is_level {ρ : Env} : mm_is_level ρ = (sSeq (sIf (eOr (eNot (eN isiD [(eVar 0), (eC (.ty .tuple))])) (eOr (eBin (eqD no2) (eVar 0) (eN mkTup [])) (eNot (eN isiD [(eBor ixD 0 (eC (.int 0))), (eC (.ty .str))])))) (sRet (eC (.bl false))) sNext) mt_is_level_3) ρ := rfl
theorem u_mt_shared_factor_1 {ρ : Env} : mt_shared_factor_1 ρ = (sPar true 2 3 (eVar 3) (eBin modD (eVar 2) (eVar 3))) ρ := rfl
theorem u_mt_shared_factor_2 {ρ : Env} : mt_shared_factor_2 ρ = (sSeq (sWhile (eBin gtD (eVar 3) (eC (.int 0))) mt_shared_factor_1) (sRetV 2)) ρ := rfl
theorem u_mm_shared_factor {ρ : Env} : mm_shared_factor ρ = (sSeq (sPar true 2 3 (eN absD [(eVar 0)]) (eN absD [(eVar 1)])) mt_shared_factor_2) ρ := rfl
theorem u_mt_is_more_1 {ρ : Env} : mt_is_more_1 ρ = (sSeq (sIf (eOr (eNot (eN isiD [(eVar 0), (eC (.ty .tuple))])) (eOr (eBin (neD no2) (eBor1 (lenB no1) 0) (eC (.int 2))) (eOr (eNot (eN F_is_integer [(eBor ixD 0 (eC (.int 0)))])) (eNot (eN F_is_integer [(eBor ixD 0 (eC (.int 1)))]))))) (sRet (eC (.bl false))) sNext) (sRet (eAnd (eBin gtD (eBor ixD 0 (eC (.int 1))) (eC (.int 1))) (eBin (eqD no2) (eN F_shared_factor [(eBor ixD 0 (eC (.int 0))), (eBor ixD 0 (eC (.int 1)))]) (eC (.int 1)))))) ρ := rfl
theorem u_mm_is_more {ρ : Env} : mm_is_more ρ = (sSeq (sIf (eN F_is_integer [(eVar 0)]) (sRet (eC (.bl true))) sNext) mt_is_more_1) ρ := rfl
theorem u_mt_is_headed_1 {ρ : Env} : mt_is_headed_1 ρ = (sSeq (sIf (eBin inD (eVar 1) (eN mkTup [(eC (.str [97, 110, 100])), (eC (.str [111, 114]))])) (sRet (eChain leD leD (eC (.int 2)) (eVar 2) (eC (.int 6)))) sNext) (sRet (eOr (eAnd (eBin (eqD no2) (eVar 1) (eC (.str [110, 111, 116]))) (eBin (eqD no2) (eVar 2) (eC (.int 1)))) (eAnd (eBin (eqD no2) (eVar 1) (eC (.str [105, 102]))) (eBin (eqD no2) (eVar 2) (eC (.int 2))))))) ρ := rfl
theorem u_mt_is_headed_2 {ρ : Env} : mt_is_headed_2 ρ = (sSeq (sIf (eBin (eqD no2) (eVar 1) (eC (.str [111, 118, 101, 114]))) (sRet (eAnd (eBin (eqD no2) (eVar 2) (eC (.int 3))) (eAnd (eN F_is_level [(eBor ixD 0 (eC (.int 1)))]) (eAnd (eN F_is_level [(eBor ixD 0 (eC (.int 2)))]) (eN F_is_more [(eBor ixD 0 (eC (.int 3)))]))))) sNext) mt_is_headed_1) ρ := rfl
theorem u_mt_is_headed_3 {ρ : Env} : mt_is_headed_3 ρ = (sSeq (sPar true 1 2 (eBor ixD 0 (eC (.int 0))) (eBin (subD no2) (eBor1 (lenB no1) 0) (eC (.int 1)))) mt_is_headed_2) ρ := rfl
theorem u_mm_is_headed {ρ : Env} : mm_is_headed ρ = (sSeq (sIf (eOr (eNot (eN isiD [(eVar 0), (eC (.ty .tuple))])) (eOr (eBin (eqD no2) (eVar 0) (eN mkTup [])) (eNot (eN isiD [(eBor ixD 0 (eC (.int 0))), (eC (.ty .str))])))) (sRet (eC (.bl false))) sNext) mt_is_headed_3) ρ := rfl
theorem u_mt_overs_in_1 {ρ : Env} : mt_overs_in_1 ρ = (sSeq (sIf (eOr (eBin gtD (eVar 4) (eC (.int 4))) (eNot (eN F_is_headed [(eVar 3)]))) (sRet (eC .non)) sNext) (sIf (eBin (eqD no2) (eBor ixD 3 (eC (.int 0))) (eC (.str [111, 118, 101, 114]))) (sSeq (sExpr (eMut appendM 1 [(eVar 3)])) (sIf (eBin gtD (eBor1 (lenB no1) 1) (eC (.int 8))) (sRet (eC .non)) sNext)) (sExpr (eMut extendM 2 [(eLc (iVal (eUn tailRD (eVar 3))) (gN 5) none (eN mkTup [(eVar 5), (eBin (addD no2) (eVar 4) (eC (.int 1)))]) [5])])))) ρ := rfl
theorem u_mt_overs_in_2 {ρ : Env} : mt_overs_in_2 ρ = (sSeq (sAsgT (gT [(gN 3), (gN 4)]) (eMut popM 2 [])) mt_overs_in_1) ρ := rfl
theorem u_mt_overs_in_3 {ρ : Env} : mt_overs_in_3 ρ = (sSeq (sWhile (eBor neE 2 (eN mkLst [])) mt_overs_in_2) (sRetV 1)) ρ := rfl
theorem u_mm_overs_in {ρ : Env} : mm_overs_in ρ = (sSeq (sPar true 1 2 (eN mkLst []) (eN mkLst [(eN mkTup [(eVar 0), (eC (.int 0))])])) mt_overs_in_3) ρ := rfl
theorem u_mm_Wish___init__ {ρ : Env} : mm_Wish___init__ ρ = (sSeq (sIf (eBin isN (eN F_overs_in [(eVar 1)]) (eC .non)) sNo sNext) (sFld 5 0 (eVar 1))) ρ := rfl
theorem u_mm_Ratio___str__ {ρ : Env} : mm_Ratio___str__ ρ = (sSeq (sIf (eBin (eqD no2) (eUn (fldD 0 1) (eVar 0)) (eC (.int 1))) (sRet (eUn fmtD (eUn (fldD 0 0) (eVar 0)))) sNext) (sRet (eN fcat [(eUn fmtD (eUn (fldD 0 0) (eVar 0))), (eC (.str [47])), (eUn fmtD (eUn (fldD 0 1) (eVar 0)))]))) ρ := rfl
theorem u_mt_Ratio___init___1 {ρ : Env} : mt_Ratio___init___1 ρ = (sSeq (sFld 0 0 (eBin fdivD (eVar 1) (eVar 3))) (sFld 0 1 (eBin fdivD (eVar 2) (eVar 3)))) ρ := rfl
theorem u_mt_Ratio___init___2 {ρ : Env} : mt_Ratio___init___2 ρ = (sSeq (sAsg true 3 (eN F_shared_factor [(eVar 1), (eVar 2)])) mt_Ratio___init___1) ρ := rfl
theorem u_mt_Ratio___init___3 {ρ : Env} : mt_Ratio___init___3 ρ = (sSeq (sIf (eOr (eNot (eN F_is_integer [(eVar 2)])) (eBin ltD (eVar 2) (eC (.int 1)))) sNo sNext) mt_Ratio___init___2) ρ := rfl
theorem u_mm_Ratio___init__ {ρ : Env} : mm_Ratio___init__ ρ = (sSeq (sIf (eNot (eN F_is_integer [(eVar 1)])) sNo sNext) mt_Ratio___init___3) ρ := rfl
theorem u_mm_more_of {ρ : Env} : mm_more_of ρ = (sRet (eIf (eN F_is_integer [(eVar 0)]) (eN (fun xs => mkObj 0 F_Ratio___init__ (xs ++ [.int 1])) [(eVar 0)]) (eN (fun xs => mkObj 0 F_Ratio___init__ (xs ++ [])) [(eBor ixD 0 (eC (.int 0))), (eBor ixD 0 (eC (.int 1)))]))) ρ := rfl
theorem u_mm_text_of_level {ρ : Env} : mm_text_of_level ρ = (sSeq (sIf (eBin (eqD no2) (eBor ixD 0 (eC (.int 0))) (eC (.str [102, 108, 111, 111, 114]))) (sRet (eC (.str [102, 108, 111, 111, 114]))) sNext) (sRet (eIf (eBin (eqD no2) (eBor ixD 0 (eC (.int 0))) (eC (.str [108, 101, 110, 103, 116, 104]))) (eBor ixD 0 (eC (.int 1))) (eN fcat [(eUn fmtD (eBor ixD 0 (eC (.int 1)))), (eC (.str [64])), (eUn fmtD (eBor ixD 0 (eC (.int 2))))])))) ρ := rfl
theorem u_mm_text_of {Frec : Fn} {ρ : Env} : mm_text_of Frec ρ = (sSeq (sIf (eBin (eqD no2) (eBor ixD 0 (eC (.int 0))) (eC (.str [111, 118, 101, 114]))) (sSeq (sAsg true 1 (eBin (addD no2) (eBin (addD no2) (eN F_text_of_level [(eBor ixD 0 (eC (.int 1)))]) (eC (.str [32]))) (eN F_text_of_level [(eBor ixD 0 (eC (.int 2)))]))) (sRet (eBin (addD no2) (eBin (addD no2) (eBin (addD no2) (eBin (addD no2) (eC (.str [40, 111, 118, 101, 114, 32])) (eVar 1)) (eC (.str [32]))) (eN (strD (sel1 (isC 0) (fun x => strG (F_Ratio___str__ [x])) no1)) [(eN F_more_of [(eBor ixD 0 (eC (.int 3)))])])) (eC (.str [41]))))) sNext) (sRet (eBin (addD no2) (eBin (addD no2) (eC (.str [40])) (eBin joinB (eC (.str [32])) (eBin (addD no2) (eN mkLst [(eBor ixD 0 (eC (.int 0)))]) (eLc (iVal (eSlice (eVar 0) (some (eC (.int 1))) none)) (gN 2) none (eN Frec [(eVar 2)]) [2])))) (eC (.str [41]))))) ρ := rfl
theorem u_mm_Wish___str__ {ρ : Env} : mm_Wish___str__ ρ = (sRet (eUn fmtD (eN F_text_of_r3 [(eUn (fldD 5 0) (eVar 0))]))) ρ := rfl
theorem u_mt_level_in_1 {ρ : Env} : mt_level_in_1 ρ = (sSeq (sAsg true 4 (eIf (eBin (eqD no2) (eVar 3) (eC (.str [108, 97, 115, 116]))) (eC (.str [108, 97, 115, 116])) (eIf (eBin inD (eVar 3) (eN listSD [(eC (.str [48, 49, 50, 51, 52, 53, 54]))])) (eN intSD [(eVar 3)]) (eC .non)))) (sRet (eN mkTup [(eIf (eN F_are_great [(eVar 1), (eC (.int 1)), (eC (.int 1))]) (eC (.str [104, 111, 111, 107])) (eC (.str [112, 97, 114, 116]))), (eVar 1), (eVar 4)]))) ρ := rfl
theorem u_mt_level_in_2 {ρ : Env} : mt_level_in_2 ρ = (sSeq (sIf (eBin (eqD no2) (eVar 2) (eC (.str []))) (sRet (eN mkTup [(eC (.str [108, 101, 110, 103, 116, 104])), (eVar 1)])) sNext) mt_level_in_1) ρ := rfl
theorem u_mt_level_in_3 {ρ : Env} : mt_level_in_3 ρ = (sSeq (sAsgT (gT [(gN 1), (gN 2), (gN 3)]) (eBin partD (eVar 0) (eC (.str [64])))) mt_level_in_2) ρ := rfl
theorem u_mm_level_in {ρ : Env} : mm_level_in ρ = (sSeq (sIf (eBin (eqD no2) (eVar 0) (eC (.str [102, 108, 111, 111, 114]))) (sRet (eN mkTup [(eC (.str [102, 108, 111, 111, 114]))])) sNext) mt_level_in_3) ρ := rfl
theorem u_mm_is_written {ρ : Env} : mm_is_written ρ = (sSeq (sIf (eOr (eBin (eqD no2) (eVar 0) (eC (.str []))) (eNot (eN allD [(eLc (iVal (eVar 0)) (gN 1) none (eBin inD (eVar 1) (eC (.str [48, 49, 50, 51, 52, 53, 54, 55, 56, 57]))) [1])]))) (sRet (eC (.bl false))) sNext) (sRet (eOr (eBin (eqD no2) (eVar 0) (eC (.str [48]))) (eBin (neD no2) (eBor ixD 0 (eC (.int 0))) (eC (.str [48])))))) ρ := rfl
theorem u_mt_ratio_in_1 {ρ : Env} : mt_ratio_in_1 ρ = (sSeq (sAsg true 5 (eIf (eBin (neD no2) (eVar 3) (eC (.str []))) (eN intSD [(eVar 4)]) (eC (.int 1)))) (sRet (eIf (eBin gtD (eVar 5) (eC (.int 0))) (eN (fun xs => mkObj 0 F_Ratio___init__ (xs ++ [])) [(eBin (mulD no2) (eVar 1) (eN intSD [(eVar 2)])), (eVar 5)]) (eC .non)))) ρ := rfl
theorem u_mt_ratio_in_2 {ρ : Env} : mt_ratio_in_2 ρ = (sSeq (sIf (eOr (eNot (eN F_is_written [(eVar 2)])) (eAnd (eBin (neD no2) (eVar 3) (eC (.str []))) (eNot (eN F_is_written [(eVar 4)])))) (sRet (eC .non)) sNext) mt_ratio_in_1) ρ := rfl
theorem u_mt_ratio_in_3 {ρ : Env} : mt_ratio_in_3 ρ = (sSeq (sAsgT (gT [(gN 2), (gN 3), (gN 4)]) (eIf (eBin ltD (eVar 1) (eC (.int 0))) (eBin partD (eSlice (eVar 0) (some (eC (.int 1))) none) (eC (.str [47]))) (eBin partD (eVar 0) (eC (.str [47]))))) mt_ratio_in_2) ρ := rfl
theorem u_mm_ratio_in {ρ : Env} : mm_ratio_in ρ = (sSeq (sAsg true 1 (eIf (eBin (eqD no2) (eSlice (eVar 0) none (some (eC (.int 1)))) (eC (.str [45]))) (eUn (negD no1) (eC (.int 1))) (eC (.int 1)))) mt_ratio_in_3) ρ := rfl
theorem u_mt_more_in_1 {ρ : Env} : mt_more_in_1 ρ = (sSeq (sIf (eBin isN (eVar 1) (eC .non)) (sRet (eC .non)) sNext) (sRet (eIf (eBin (eqD no2) (eUn (fldD 0 1) (eVar 1)) (eC (.int 1))) (eUn (fldD 0 0) (eVar 1)) (eN mkTup [(eUn (fldD 0 0) (eVar 1)), (eUn (fldD 0 1) (eVar 1))])))) ρ := rfl
theorem u_mm_more_in {ρ : Env} : mm_more_in ρ = (sSeq (sAsg true 1 (eIf (eN isiD [(eVar 0), (eC (.ty .str))]) (eN F_ratio_in [(eVar 0)]) (eC .non))) mt_more_in_1) ρ := rfl
theorem u_mt_form_in_1 {Frec : Fn} {ρ : Env} : mt_form_in_1 Frec ρ = (sSeq (sIf (eBin (eqD no2) (eVar 1) (eC (.int 0))) (sRet (eC .non)) sNext) (sRet (eBin (addD no2) (eSlice (eVar 0) none (some (eC (.int 1)))) (eN tupleD [(eLc (iVal (eSlice (eVar 0) (some (eC (.int 1))) none)) (gN 4) none (eN Frec [(eVar 4), (eBin (subD no2) (eVar 1) (eC (.int 1)))]) [4])])))) ρ := rfl
theorem u_mt_form_in_2 {Frec : Fn} {ρ : Env} : mt_form_in_2 Frec ρ = (sSeq (sIf (eBin (eqD no2) (eBor ixD 0 (eC (.int 0))) (eC (.str [111, 118, 101, 114]))) (sSeq (sAsg true 2 (eLc (iVal (eSlice (eVar 0) (some (eC (.int 1))) (some (eC (.int 3))))) (gN 3) none (eIf (eN isiD [(eVar 3), (eC (.ty .str))]) (eN F_level_in [(eVar 3)]) (eC .non)) [3])) (sRet (eBin (addD no2) (eBin (addD no2) (eN mkTup [(eC (.str [111, 118, 101, 114]))]) (eN tupleD [(eVar 2)])) (eN tupleD [(eLc (iVal (eSlice (eVar 0) (some (eC (.int 3))) none)) (gN 3) none (eN F_more_in [(eVar 3)]) [3])])))) sNext) (mt_form_in_1 Frec)) ρ := rfl
theorem u_mm_form_in {Frec : Fn} {ρ : Env} : mm_form_in Frec ρ = (sSeq (sIf (eOr (eNot (eN isiD [(eVar 0), (eC (.ty .tuple))])) (eOr (eBin (eqD no2) (eVar 0) (eN mkTup [])) (eNot (eN isiD [(eBor ixD 0 (eC (.int 0))), (eC (.ty .str))])))) (sRet (eC .non)) sNext) (mt_form_in_2 Frec)) ρ := rfl
theorem u_mt_wish_in_1 {ρ : Env} : mt_wish_in_1 ρ = (sSeq (sIf (eOr (eBin isN (eN F_overs_in [(eVar 1)]) (eC .non)) (eBin (neD no2) (eN F_text_of_r3 [(eVar 1)]) (eVar 0))) sNo sNext) (sRet (eN (fun xs => mkObj 5 F_Wish___init__ (xs ++ [])) [(eVar 1)]))) ρ := rfl
theorem u_mm_wish_in {ρ : Env} : mm_wish_in ρ = (sSeq (sAsg true 1 (eIf (eAnd (eN isiD [(eVar 0), (eC (.ty .str))]) (eBin leD (eBor1 (lenB no1) 0) (eC (.int 2000)))) (eN F_form_in_r3 [(eN F_nested [(eVar 0)]), (eC (.int 4))]) (eC .non))) mt_wish_in_1) ρ := rfl
theorem u_mm_Wish_read {ρ : Env} : mm_Wish_read ρ = (sRet (eN F_wish_in [(eVar 0)])) ρ := rfl
theorem u_mt__law_bag_1 {ρ : Env} : mt__law_bag_1 ρ = (sAsg true 3 (eBin modD (eN intD [(eBin (addD no2) (eBin (addD no2) (eBin (mulD no2) (eVar 3) (eC (.int 27449))) (eBin modD (eN intD [(eVar 4)]) (eC (.int 1000081)))) (eBin (mulD no2) (eC (.int 13)) (eVar 1)))]) (eC (.int 2147483563)))) ρ := rfl
theorem u_mt__law_bag_2 {ρ : Env} : mt__law_bag_2 ρ = (sSeq (sAsg true 5 (eIf (eOr (eBin ltD (eVar 2) (eC (.int 0))) (eBin geD (eVar 2) (eBin powD (eC (.int 10)) (eC (.int 15))))) (eN absD [(eVar 2)]) (eC (.int 0)))) (sRet (eN mkLst [(eVar 5), (eBin modD (eN intD [(eBin (addD no2) (eVar 3) (eBin (mulD no2) (eC (.int 39119)) (eBin modD (eN intD [(eVar 2)]) (eC (.int 999907)))))]) (eC (.int 2147483563))), (eC (.int 0))]))) ρ := rfl
theorem u_mt__law_bag_3 {ρ : Env} : mt__law_bag_3 ρ = (sSeq (sFor (iVal (eSlice (eVar 0) none (some (eC (.int 7))))) (gN 4) mt__law_bag_1) mt__law_bag_2) ρ := rfl
theorem u_mm__law_bag {ρ : Env} : mm__law_bag ρ = (sSeq (sPar true 2 3 (eIf (eBin ltD (eVar 1) (eBor1 (lenB no1) 0)) (eN intD [(eBor ixD 0 (eVar 1))]) (eC (.int 0))) (eBin (mulD no2) (eC (.int 50021)) (eBin (addD no2) (eVar 1) (eC (.int 7))))) mt__law_bag_3) ρ := rfl
theorem u_mm_Wish___eq__ {ρ : Env} : mm_Wish___eq__ ρ = (sRet (eAnd (eN isiD [(eVar 1), (eC (.cls 5))]) (eBin (eqD no2) (eUn (fldD 5 0) (eVar 0)) (eUn (fldD 5 0) (eVar 1))))) ρ := rfl
theorem u_mt__law_draw_1 {ρ : Env} : mt__law_draw_1 ρ = (sSeq (sPut putM 0 (eC (.int 0)) (eBin fdivD (eBor ixD 0 (eC (.int 0))) (eVar 1))) (sRetV 2)) ρ := rfl
theorem u_mt__law_draw_2 {ρ : Env} : mt__law_draw_2 ρ = (sSeq (sPut putM 0 (eC (.int 1)) (eBin modD (eN intD [(eBin (addD no2) (eBin (addD no2) (eBin (mulD no2) (eVar 3) (eVar 4)) (eBin (mulD no2) (eC (.int 11)) (eBor ixD 0 (eC (.int 2))))) (eC (.int 17)))]) (eC (.int 2147483563)))) (sRet (eBin modD (eBin fdivD (eN intD [(eBor ixD 0 (eC (.int 1)))]) (eC (.int 523))) (eVar 1)))) ρ := rfl
theorem u_mt__law_draw_3 {ρ : Env} : mt__law_draw_3 ρ = (sSeq (sAsg true 4 (eBin (addD no2) (eBin modD (eN intD [(eVar 3)]) (eC (.int 59951))) (eC (.int 40031)))) mt__law_draw_2) ρ := rfl
theorem u_mt__law_draw_4 {ρ : Env} : mt__law_draw_4 ρ = (sSeq (sAsg true 3 (eBin (addD no2) (eN intD [(eBor ixD 0 (eC (.int 1)))]) (eBin (mulD no2) (eC (.int 104593)) (eBor ixD 0 (eC (.int 2)))))) mt__law_draw_3) ρ := rfl
theorem u_mt__law_draw_5 {ρ : Env} : mt__law_draw_5 ρ = (sSeq (sIf (eBin gtD (eBor ixD 0 (eC (.int 0))) (eC (.int 0))) (sSeq (sAsg true 2 (eBin modD (eN intD [(eBor ixD 0 (eC (.int 0)))]) (eVar 1))) mt__law_draw_1) sNext) mt__law_draw_4) ρ := rfl
theorem u_mm__law_draw {ρ : Env} : mm__law_draw ρ = (sSeq (sPut putM 0 (eC (.int 2)) (eBin (addD no2) (eBor ixD 0 (eC (.int 2))) (eC (.int 1)))) mt__law_draw_5) ρ := rfl
theorem u_mm__law_one {ρ : Env} : mm__law_one ρ = (sRet (eBor ixD 1 (eCallR F__law_draw [] 0 [(eBor1 (lenB no1) 1)]))) ρ := rfl
theorem u_mt__law_level_1 {ρ : Env} : mt__law_level_1 ρ = (sSeq (sIf (eBin ltD (eVar 3) (eC (.int 6))) (sRet (eN mkTup [(eC (.str [104, 111, 111, 107])), (eCallR F__law_one [] 0 [(eBor ixD 1 (eC (.int 2)))]), (eVar 4)])) sNext) (sRet (eIf (eBin (eqD no2) (eVar 3) (eC (.int 6))) (eN mkTup [(eC (.str [108, 101, 110, 103, 116, 104])), (eBin ixD (eCallR F__law_one [] 0 [(eBor ixD 1 (eC (.int 3)))]) (eC (.int 0)))]) (eN mkTup [(eC (.str [102, 108, 111, 111, 114]))])))) ρ := rfl
theorem u_mt__law_level_2 {ρ : Env} : mt__law_level_2 ρ = (sSeq (sIf (eBin ltD (eVar 3) (eC (.int 4))) (sRet (eN mkTup [(eC (.str [112, 97, 114, 116])), (eCallR F__law_one [] 0 [(eBor ixD 1 (eC (.int 0)))]), (eVar 4)])) sNext) mt__law_level_1) ρ := rfl
theorem u_mm__law_level {ρ : Env} : mm__law_level ρ = (sSeq (sPar true 3 4 (eCallR F__law_draw [] 0 [(eC (.int 8))]) (eCallR F__law_one [] 0 [(eN mkLst [(eC (.int 0)), (eVar 2), (eCallR F__law_draw [] 0 [(eBin (addD no2) (eVar 2) (eC (.int 1)))]), (eC (.str [108, 97, 115, 116]))])])) mt__law_level_2) ρ := rfl
theorem u_mm__law_more {ρ : Env} : mm__law_more ρ = (sRet (eCallR F__law_one [] 0 [(eN mkLst [(eC (.int 0)), (eC (.int 0)), (eC (.int 3)), (eBin (subD no2) (eC (.int 0)) (eC (.int 4))), (eC (.int 12)), (eN mkTup [(eC (.int 1)), (eC (.int 2))]), (eN mkTup [(eBin (subD no2) (eC (.int 0)) (eC (.int 7))), (eC (.int 3))]), (eN mkTup [(eC (.int 5)), (eC (.int 6))]), (eBin (subD no2) (eC (.int 0)) (eC (.int 20))), (eCallR F__law_draw [] 0 [(eC (.int 40))])])])) ρ := rfl
theorem u_mt__law_plea_1 {Frec : FnR} {ρ : Env} : mt__law_plea_1 Frec ρ = (sSeq (sIf (eBin ltD (eVar 4) (eC (.int 5))) (sRet (eN mkTup [(eBin ixD (eN mkLst [(eC (.str [105, 102])), (eC (.str [97, 110, 100]))]) (eBin (subD no2) (eVar 4) (eC (.int 3)))), (eVar 5), (eCallR Frec [] 0 [(eVar 1), (eVar 2), (eBin (subD no2) (eVar 3) (eC (.int 1)))])])) sNext) (sRet (eN mkTup [(eC (.str [111, 114])), (eVar 5), (eCallR Frec [] 0 [(eVar 1), (eVar 2), (eC (.int 0))]), (eCallR Frec [] 0 [(eVar 1), (eVar 2), (eC (.int 0))])]))) ρ := rfl
theorem u_mt__law_plea_2 {Frec : FnR} {ρ : Env} : mt__law_plea_2 Frec ρ = (sSeq (sAsg true 5 (eCallR Frec [] 0 [(eVar 1), (eVar 2), (eBin (subD no2) (eVar 3) (eC (.int 1)))])) (mt__law_plea_1 Frec)) ρ := rfl
theorem u_mt__law_plea_3 {Frec : FnR} {ρ : Env} : mt__law_plea_3 Frec ρ = (sSeq (sIf (eBin (eqD no2) (eVar 4) (eC (.int 2))) (sRet (eN mkTup [(eC (.str [110, 111, 116])), (eCallR Frec [] 0 [(eVar 1), (eVar 2), (eBin (subD no2) (eVar 3) (eC (.int 1)))])])) sNext) (mt__law_plea_2 Frec)) ρ := rfl
theorem u_mt__law_plea_4 {Frec : FnR} {ρ : Env} : mt__law_plea_4 Frec ρ = (sSeq (sIf (eBin ltD (eVar 4) (eC (.int 2))) (sRet (eN mkTup [(eC (.str [111, 118, 101, 114])), (eCallR F__law_level [] 0 [(eVar 1), (eVar 2)]), (eCallR F__law_level [] 0 [(eVar 1), (eVar 2)]), (eCallR F__law_more [] 0 [])])) sNext) (mt__law_plea_3 Frec)) ρ := rfl
theorem u_mm__law_plea {Frec : FnR} {ρ : Env} : mm__law_plea Frec ρ = (sSeq (sAsg true 4 (eIf (eBin gtD (eVar 3) (eC (.int 0))) (eCallR F__law_draw [] 0 [(eC (.int 7))]) (eC (.int 0)))) (mt__law_plea_4 Frec)) ρ := rfl
theorem u_mt__law_cords_1 {ρ : Env} : mt__law_cords_1 ρ = (sIf (eAnd (eBin ltD (eCallR F__law_draw [] 0 [(eC (.int 5))]) (eC (.int 3))) (eBin ltD (eBor1 (lenB no1) 2) (eC (.int 10)))) (sSeq (sAsg true 5 (eIf (eBin (eqD no2) (eCallR F__law_draw [] 0 [(eC (.int 2))]) (eC (.int 0))) (eN mkTup [(eBor ixD 1 (eVar 4)), (eBor ixD 1 (eVar 3))]) (eN mkTup [(eBor ixD 1 (eVar 3)), (eBor ixD 1 (eVar 4))]))) (sExpr (eMut appendM 2 [(eBin (addD no2) (eVar 5) (eN mkTup [(eCallR F__law_one [] 0 [(eN mkLst [(eC (.int 0)), (eC (.int 1)), (eC (.int 2)), (eC (.int 3)), (eC (.int 5)), (eC (.int 8)), (eC (.int 20))])])]))]))) sNext) ρ := rfl
theorem u_mt__law_cords_2 {ρ : Env} : mt__law_cords_2 ρ = (sFor (iRange [(eVar 3)]) (gN 4) mt__law_cords_1) ρ := rfl
theorem u_mt__law_cords_3 {ρ : Env} : mt__law_cords_3 ρ = (sSeq (sFor (iRange [(eBor1 (lenB no1) 1)]) (gN 3) mt__law_cords_2) (sRet (eN tupleD [(eVar 2)]))) ρ := rfl
theorem u_mm__law_cords {ρ : Env} : mm__law_cords ρ = (sSeq (sAsg true 2 (eN mkLst [])) mt__law_cords_3) ρ := rfl
theorem u_mt__law_letters_1 {ρ : Env} : mt__law_letters_1 ρ = (sExpr (eMut appendM 4 [(eMut popM 3 [(eCallR F__law_draw [] 0 [(eBor1 (lenB no1) 3)])])])) ρ := rfl
theorem u_mt__law_letters_2 {ρ : Env} : mt__law_letters_2 ρ = (sSeq (sFor (iRange [(eVar 2)]) (gN 5) mt__law_letters_1) (sRet (eBin joinB (eC (.str [])) (eN sortedD [(eVar 4)])))) ρ := rfl
theorem u_mm__law_letters {ρ : Env} : mm__law_letters ρ = (sSeq (sPar true 3 4 (eN listSD [(eVar 1)]) (eN mkLst [])) mt__law_letters_2) ρ := rfl
theorem u_mt__law_words_1 {ρ : Env} : mt__law_words_1 ρ = (sSeq (sIf (eBorR inD (eVar 4) 2) (sAsg true 4 (eBin (addD no2) (eSlice (eVar 4) none (some (eC (.int 7)))) (eBin ixD (eC (.str [102, 103, 105, 106, 113, 118, 120])) (eVar 3)))) sNext) (sExpr (eMut appendM 2 [(eVar 4)]))) ρ := rfl
theorem u_mt__law_words_2 {ρ : Env} : mt__law_words_2 ρ = (sSeq (sAsg true 4 (eBin joinB (eC (.str [])) (eLc (iRange [(eBin (addD no2) (eC (.int 2)) (eCallR F__law_draw [] 0 [(eC (.int 6))]))]) (gN 5) none (eCallR F__law_one [] 0 [(eC (.str [97, 98, 99, 100, 101, 104, 107, 108, 109, 110, 111, 112, 114, 115, 116, 117, 119, 121, 122]))]) [5]))) mt__law_words_1) ρ := rfl
theorem u_mt__law_words_3 {ρ : Env} : mt__law_words_3 ρ = (sSeq (sFor (iRange [(eVar 1)]) (gN 3) mt__law_words_2) (sRet (eN tupleD [(eVar 2)]))) ρ := rfl
theorem u_mm__law_words {ρ : Env} : mm__law_words ρ = (sSeq (sAsg true 2 (eN mkLst [])) mt__law_words_3) ρ := rfl
theorem u_mt__law_shape_1 {ρ : Env} : mt__law_shape_1 ρ = (sSeq (sAsg true 4 (eN tupleD [(eLc (iVal (eVar 3)) (gN 5) none (eN mkTup [(eVar 5), (eCallR F__law_one [] 0 [(eVar 2)]), (eCallR F__law_one [] 0 [(eVar 1)])]) [5])])) (sRet (eN mkTup [(eVar 1), (eCallR F__law_cords [] 0 [(eVar 1)]), (eVar 2), (eVar 4)]))) ρ := rfl
theorem u_mt__law_shape_2 {ρ : Env} : mt__law_shape_2 ρ = (sSeq (sAsg true 3 (eCallR F__law_letters [] 0 [(eC (.str [97, 98, 99, 101, 102, 103, 109, 110, 120, 121, 122])), (eBin (addD no2) (eC (.int 1)) (eCallR F__law_draw [] 0 [(eC (.int 4))]))])) mt__law_shape_1) ρ := rfl
theorem u_mt__law_shape_3 {ρ : Env} : mt__law_shape_3 ρ = (sSeq (sAsg true 2 (eCallR F__law_letters [] 0 [(eC (.str [65, 68, 70, 72, 75, 77, 80, 82, 83, 84, 87])), (eBin (addD no2) (eC (.int 1)) (eCallR F__law_draw [] 0 [(eC (.int 3))]))])) mt__law_shape_2) ρ := rfl
theorem u_mm__law_shape {ρ : Env} : mm__law_shape ρ = (sSeq (sAsg true 1 (eCallR F__law_words [] 0 [(eBin (addD no2) (eC (.int 1)) (eCallR F__law_draw [] 0 [(eC (.int 4))]))])) mt__law_shape_3) ρ := rfl
theorem u_mm__law_level_text {ρ : Env} : mm__law_level_text ρ = (sSeq (sIf (eBin (eqD no2) (eVar 0) (eN mkTup [(eC (.str [102, 108, 111, 111, 114]))])) (sRet (eC (.str [102, 108, 111, 111, 114]))) sNext) (sRet (eIf (eBin (eqD no2) (eBor ixD 0 (eC (.int 0))) (eC (.str [108, 101, 110, 103, 116, 104]))) (eBor ixD 0 (eC (.int 1))) (eBin (addD no2) (eBin (addD no2) (eBor ixD 0 (eC (.int 1))) (eC (.str [64]))) (eN (strD no1) [(eBor ixD 0 (eC (.int 2)))]))))) ρ := rfl
theorem u_mt__law_written_1 {Frec : Fn} {ρ : Env} : mt__law_written_1 Frec ρ = (sSeq (sAsg true 3 (eN mkLst [(eN F__law_level_text [(eBor ixD 0 (eC (.int 1)))]), (eN F__law_level_text [(eBor ixD 0 (eC (.int 2)))])])) (sRet (eBin (addD no2) (eBin (addD no2) (eC (.str [40, 111, 118, 101, 114, 32])) (eBin joinB (eC (.str [32])) (eBin (addD no2) (eVar 3) (eN mkLst [(eVar 2)])))) (eC (.str [41]))))) ρ := rfl
theorem u_mt__law_written_2 {Frec : Fn} {ρ : Env} : mt__law_written_2 Frec ρ = (sSeq (sAsg true 2 (eIf (eBin (eqD no2) (eBor ixD 1 (eC (.int 1))) (eC (.int 1))) (eN (strD no1) [(eBor ixD 1 (eC (.int 0)))]) (eBin (addD no2) (eBin (addD no2) (eN (strD no1) [(eBor ixD 1 (eC (.int 0)))]) (eC (.str [47]))) (eN (strD no1) [(eBor ixD 1 (eC (.int 1)))])))) (mt__law_written_1 Frec)) ρ := rfl
theorem u_mm__law_written {Frec : Fn} {ρ : Env} : mm__law_written Frec ρ = (sSeq (sIf (eBin (eqD no2) (eBor ixD 0 (eC (.int 0))) (eC (.str [111, 118, 101, 114]))) (sSeq (sAsg true 1 (eIf (eN isiD [(eBor ixD 0 (eC (.int 3))), (eC (.ty .tuple))]) (eBor ixD 0 (eC (.int 3))) (eN mkTup [(eBor ixD 0 (eC (.int 3))), (eC (.int 1))]))) (mt__law_written_2 Frec)) sNext) (sRet (eBin (addD no2) (eBin (addD no2) (eC (.str [40])) (eBin joinB (eC (.str [32])) (eBin (addD no2) (eN mkLst [(eBor ixD 0 (eC (.int 0)))]) (eLc (iVal (eSlice (eVar 0) (some (eC (.int 1))) none)) (gN 4) none (eN Frec [(eVar 4)]) [4])))) (eC (.str [41]))))) ρ := rfl
theorem u_mt__law_right_1 {ρ : Env} : mt__law_right_1 ρ = (sSeq (sIf (eBin (neD (sel (cany 5) (fun x y => F_Wish___eq__ [x, y]) no2)) (eVar 8) (eN mkLst [(eVar 4), (eC (.bl true)), (eC (.bl true)), (eC (.bl false))])) (sRet (eC (.bl false))) sNext) (sExpr (eMut appendM 2 [(eVar 6)]))) ρ := rfl
theorem u_mt__law_right_2 {ρ : Env} : mt__law_right_2 ρ = (sSeq (sAsg true 8 (eN mkLst [(eUn (fldD 5 0) (eVar 7)), (eBin (eqD (sel (cany 5) (fun x y => F_Wish___eq__ [x, y]) no2)) (eNK F_Wish_read (prm [0]) [] [(eVar 5)]) (eVar 6)), (eBin (eqD (sel (cany 5) (fun x y => F_Wish___eq__ [x, y]) no2)) (eNK (mkObj 5 F_Wish___init__) (prm [0]) [] [(eVar 4)]) (eVar 7)), (eBin (eqD (sel (cany 5) (fun x y => F_Wish___eq__ [x, y]) no2)) (eVar 6) (eVar 4))])) mt__law_right_1) ρ := rfl
theorem u_mt__law_right_3 {ρ : Env} : mt__law_right_3 ρ = (sSeq (sAsg true 7 (eN F_Wish_read [(eVar 5)])) mt__law_right_2) ρ := rfl
theorem u_mt__law_right_4 {ρ : Env} : mt__law_right_4 ρ = (sSeq (sIf (eBin (neD (sel (cany 5) (fun x y => F_Wish___eq__ [x, y]) no2)) (eN mkLst [(eUn (fldD 5 0) (eVar 6)), (eN (strD (sel1 (isC 5) (fun x => strG (F_Wish___str__ [x])) no1)) [(eVar 6)]), (eN (strD (sel1 (isC 5) (fun x => strG (F_Wish___str__ [x])) no1)) [(eVar 6)])]) (eN mkLst [(eVar 4), (eVar 5), (eVar 5)])) (sRet (eC (.bl false))) sNext) mt__law_right_3) ρ := rfl
theorem u_mt__law_right_5 {ρ : Env} : mt__law_right_5 ρ = (sSeq (sPar true 5 6 (eN F__law_written_r3 [(eVar 4)]) (eN (fun xs => mkObj 5 F_Wish___init__ (xs ++ [])) [(eVar 4)])) mt__law_right_4) ρ := rfl
theorem u_mt__law_right_6 {ρ : Env} : mt__law_right_6 ρ = (sSeq (sAsg true 4 (eCallR F__law_plea_r3 [] 0 [(eVar 1), (eC (.int 6)), (eCallR F__law_draw [] 0 [(eC (.int 3))])])) mt__law_right_5) ρ := rfl
theorem u_mt__law_right_7 {ρ : Env} : mt__law_right_7 ρ = (sIf (eBin (neD (sel (cany 5) (fun x y => F_Wish___eq__ [x, y]) no2)) (eLc (iVal (eVar 2)) (gN 10) none (eBin (eqD (sel (cany 5) (fun x y => F_Wish___eq__ [x, y]) no2)) (eVar 9) (eVar 10)) [10]) (eLc (iVal (eVar 2)) (gN 10) none (eBin (eqD (sel (cany 5) (fun x y => F_Wish___eq__ [x, y]) no2)) (eUn (fldD 5 0) (eVar 9)) (eUn (fldD 5 0) (eVar 10))) [10])) (sRet (eC (.bl false))) sNext) ρ := rfl
theorem u_mt__law_right_8 {ρ : Env} : mt__law_right_8 ρ = (sSeq (sFor (iVal (eVar 2)) (gN 9) mt__law_right_7) (sRet (eC (.bl true)))) ρ := rfl
theorem u_mt__law_right_9 {ρ : Env} : mt__law_right_9 ρ = (sSeq (sFor (iRange [(eC (.int 6))]) (gN 3) mt__law_right_6) mt__law_right_8) ρ := rfl
theorem u_mm__law_right {ρ : Env} : mm__law_right ρ = (sSeq (sPar true 1 2 (eCallR F__law_shape [] 0 []) (eN mkLst [])) mt__law_right_9) ρ := rfl
theorem u_mt_law_1 {ρ : Env} : mt_law_1 ρ = (sSeq (sIf (eOr (eBin (neD no2) (eUn (fldD 5 0) (eN F_Wish_read [(eVar 2)])) (eVar 1)) (eBin (neD no2) (eN (strD (sel1 (isC 5) (fun x => strG (F_Wish___str__ [x])) no1)) [(eN (fun xs => mkObj 5 F_Wish___init__ (xs ++ [])) [(eVar 1)])]) (eVar 2))) (sRet (eC (.bl false))) sNext) (sRet (eN allD [(eLc (iRange [(eN maxD [(eC (.int 2)), (eN minD [(eBor1 (lenB no1) 0), (eC (.int 6))])])]) (gN 3) none (eCallT F__law_right [] (eN F__law_bag [(eVar 0), (eVar 3)])) [3])]))) ρ := rfl
theorem u_mt_law_2 {ρ : Env} : mt_law_2 ρ = (sSeq (sAsg true 1 (eN mkTup [(eC (.str [105, 102])), (eN mkTup [(eC (.str [111, 118, 101, 114])), (eN mkTup [(eC (.str [104, 111, 111, 107])), (eC (.str [65])), (eC (.str [108, 97, 115, 116]))]), (eN mkTup [(eC (.str [102, 108, 111, 111, 114]))]), (eC (.int 7))]), (eN mkTup [(eC (.str [111, 114])), (eN mkTup [(eC (.str [111, 118, 101, 114])), (eN mkTup [(eC (.str [102, 108, 111, 111, 114]))]), (eN mkTup [(eC (.str [108, 101, 110, 103, 116, 104])), (eC (.str [98]))]), (eC (.int 0))]), (eN mkTup [(eC (.str [111, 118, 101, 114])), (eN mkTup [(eC (.str [112, 97, 114, 116])), (eC (.str [108, 97, 115, 116])), (eC (.int 0))]), (eN mkTup [(eC (.str [112, 97, 114, 116])), (eC (.str [102, 108, 111, 111, 114])), (eC (.str [108, 97, 115, 116]))]), (eBin (subD no2) (eC (.int 0)) (eC (.int 1)))]), (eN mkTup [(eC (.str [111, 118, 101, 114])), (eN mkTup [(eC (.str [112, 97, 114, 116])), (eC (.str [104, 97, 110, 100])), (eC (.int 6))]), (eN mkTup [(eC (.str [104, 111, 111, 107])), (eC (.str [65])), (eC (.int 0))]), (eN mkTup [(eC (.int 1)), (eC (.int 2))])])])])) mt_law_1) ρ := rfl
theorem u_mt_law_3 {ρ : Env} : mt_law_3 ρ = (sSeq (sAsg true 2 (eC (.str [40, 105, 102, 32, 40, 111, 118, 101, 114, 32, 65, 64, 108, 97, 115, 116, 32, 102, 108, 111, 111, 114, 32, 55, 41, 32, 40, 111, 114, 32, 40, 111, 118, 101, 114, 32, 102, 108, 111, 111, 114, 32, 98, 32, 48, 41, 32, 40, 111, 118, 101, 114, 32, 108, 97, 115, 116, 64, 48, 32, 102, 108, 111, 111, 114, 64, 108, 97, 115, 116, 32, 45, 49, 41, 32, 40, 111, 118, 101, 114, 32, 104, 97, 110, 100, 64, 54, 32, 65, 64, 48, 32, 49, 47, 50, 41, 41, 41]))) mt_law_2) ρ := rfl
theorem u_mt_law_4 {ρ : Env} : mt_law_4 ρ = (sSeq (sIf (eOr (eBin (neD no2) (eN (strD (sel1 (isC 5) (fun x => strG (F_Wish___str__ [x])) no1)) [(eN (fun xs => mkObj 5 F_Wish___init__ (xs ++ [])) [(eVar 1)])]) (eC (.str [40, 110, 111, 116, 32, 40, 111, 118, 101, 114, 32, 102, 111, 111, 116, 64, 50, 32, 97, 32, 45, 51, 47, 50, 41, 41]))) (eBin (neD no2) (eUn (fldD 5 0) (eN F_Wish_read [(eC (.str [40, 110, 111, 116, 32, 40, 111, 118, 101, 114, 32, 102, 111, 111, 116, 64, 50, 32, 97, 32, 45, 51, 47, 50, 41, 41]))])) (eVar 1))) (sRet (eC (.bl false))) sNext) mt_law_3) ρ := rfl
theorem u_mm_law {ρ : Env} : mm_law ρ = (sSeq (sAsg true 1 (eN mkTup [(eC (.str [110, 111, 116])), (eN mkTup [(eC (.str [111, 118, 101, 114])), (eN mkTup [(eC (.str [112, 97, 114, 116])), (eC (.str [102, 111, 111, 116])), (eC (.int 2))]), (eN mkTup [(eC (.str [108, 101, 110, 103, 116, 104])), (eC (.str [97]))]), (eN mkTup [(eBin (subD no2) (eC (.int 0)) (eC (.int 3))), (eC (.int 2))])])])) mt_law_4) ρ := rfl
theorem o_are_great {x0 x1 x2 : D} : F_are_great [x0, x1, x2] = bnd (mm_are_great [.sh x0, .sh x1, .sh x2, .un]) fun r => endOf r.1 := by rw [q_are_great]; exact fn_eq rfl
theorem o_are_small {x0 x1 x2 : D} : F_are_small [x0, x1, x2] = bnd (mm_are_small [.sh x0, .sh x1, .sh x2, .un]) fun r => endOf r.1 := by rw [q_are_small]; exact fn_eq rfl
theorem o_is_integer {x0 : D} : F_is_integer [x0] = bnd (mm_is_integer [.sh x0]) fun r => endOf r.1 := by rw [q_is_integer]; exact fn_eq rfl
theorem o_is_number {x0 x1 : D} : F_is_number [x0, x1] = bnd (mm_is_number [.sh x0, .sh x1]) fun r => endOf r.1 := by rw [q_is_number]; exact fn_eq rfl
theorem o_is_moment {x0 x1 : D} : F_is_moment [x0, x1] = bnd (mm_is_moment [.sh x0, .sh x1]) fun r => endOf r.1 := by rw [q_is_moment]; exact fn_eq rfl
theorem o_is_level {x0 : D} : F_is_level [x0] = bnd (mm_is_level [.sh x0]) fun r => endOf r.1 := by rw [q_is_level]; exact fn_eq rfl
theorem o_shared_factor {x0 x1 : D} : F_shared_factor [x0, x1] = bnd (mm_shared_factor [.sh x0, .sh x1, .un, .un]) fun r => endOf r.1 := by rw [q_shared_factor]; exact fn_eq rfl
theorem o_is_more {x0 : D} : F_is_more [x0] = bnd (mm_is_more [.sh x0]) fun r => endOf r.1 := by rw [q_is_more]; exact fn_eq rfl
theorem o_is_headed {x0 : D} : F_is_headed [x0] = bnd (mm_is_headed [.sh x0, .un, .un]) fun r => endOf r.1 := by rw [q_is_headed]; exact fn_eq rfl
theorem o_overs_in {x0 : D} : F_overs_in [x0] = bnd (mm_overs_in [.sh x0, .un, .un, .un, .un, .un]) fun r => endOf r.1 := by rw [q_overs_in]; exact fn_eq rfl
theorem o_Wish___init__ {x0 x1 : D} : F_Wish___init__ [x1] x0 = bnd (mm_Wish___init__ [.ow x0, .sh x1]) fun r => bnd (endOf r.1) fun t => bnd (ownG r.2[0]?) fun d' => .ok (t, d') := by rw [q_Wish___init__]; exact fnR_eq rfl (by decide)
theorem o_Ratio___str__ {x0 : D} : F_Ratio___str__ [x0] = bnd (mm_Ratio___str__ [.sh x0]) fun r => endOf r.1 := by rw [q_Ratio___str__]; exact fn_eq rfl
theorem o_Ratio___init__ {x0 x1 x2 : D} : F_Ratio___init__ [x1, x2] x0 = bnd (mm_Ratio___init__ [.ow x0, .sh x1, .sh x2, .un]) fun r => bnd (endOf r.1) fun t => bnd (ownG r.2[0]?) fun d' => .ok (t, d') := by rw [q_Ratio___init__]; exact fnR_eq rfl (by decide)
theorem o_more_of {x0 : D} : F_more_of [x0] = bnd (mm_more_of [.sh x0]) fun r => endOf r.1 := by rw [q_more_of]; exact fn_eq rfl
theorem o_text_of_level {x0 : D} : F_text_of_level [x0] = bnd (mm_text_of_level [.sh x0]) fun r => endOf r.1 := by rw [q_text_of_level]; exact fn_eq rfl
theorem o_text_of_r1 {x0 : D} : F_text_of_r1 [x0] = bnd ((mm_text_of F_text_of_r0) [.sh x0, .un, .un]) fun r => endOf r.1 := by rw [q_text_of_r1]; exact fn_eq rfl
theorem o_text_of_r2 {x0 : D} : F_text_of_r2 [x0] = bnd ((mm_text_of F_text_of_r1) [.sh x0, .un, .un]) fun r => endOf r.1 := by rw [q_text_of_r2]; exact fn_eq rfl
theorem o_text_of_r3 {x0 : D} : F_text_of_r3 [x0] = bnd ((mm_text_of F_text_of_r2) [.sh x0, .un, .un]) fun r => endOf r.1 := by rw [q_text_of_r3]; exact fn_eq rfl
theorem o_Wish___str__ {x0 : D} : F_Wish___str__ [x0] = bnd (mm_Wish___str__ [.sh x0]) fun r => endOf r.1 := by rw [q_Wish___str__]; exact fn_eq rfl
theorem o_level_in {x0 : D} : F_level_in [x0] = bnd (mm_level_in [.sh x0, .un, .un, .un, .un]) fun r => endOf r.1 := by rw [q_level_in]; exact fn_eq rfl
theorem o_is_written {x0 : D} : F_is_written [x0] = bnd (mm_is_written [.sh x0, .un]) fun r => endOf r.1 := by rw [q_is_written]; exact fn_eq rfl
theorem o_ratio_in {x0 : D} : F_ratio_in [x0] = bnd (mm_ratio_in [.sh x0, .un, .un, .un, .un, .un]) fun r => endOf r.1 := by rw [q_ratio_in]; exact fn_eq rfl
theorem o_more_in {x0 : D} : F_more_in [x0] = bnd (mm_more_in [.sh x0, .un]) fun r => endOf r.1 := by rw [q_more_in]; exact fn_eq rfl
theorem o_form_in_r1 {x0 x1 : D} : F_form_in_r1 [x0, x1] = bnd ((mm_form_in F_form_in_r0) [.sh x0, .sh x1, .un, .un, .un]) fun r => endOf r.1 := by rw [q_form_in_r1]; exact fn_eq rfl
theorem o_form_in_r2 {x0 x1 : D} : F_form_in_r2 [x0, x1] = bnd ((mm_form_in F_form_in_r1) [.sh x0, .sh x1, .un, .un, .un]) fun r => endOf r.1 := by rw [q_form_in_r2]; exact fn_eq rfl
theorem o_form_in_r3 {x0 x1 : D} : F_form_in_r3 [x0, x1] = bnd ((mm_form_in F_form_in_r2) [.sh x0, .sh x1, .un, .un, .un]) fun r => endOf r.1 := by rw [q_form_in_r3]; exact fn_eq rfl
theorem o_wish_in {x0 : D} : F_wish_in [x0] = bnd (mm_wish_in [.sh x0, .un]) fun r => endOf r.1 := by rw [q_wish_in]; exact fn_eq rfl
theorem o_Wish_read {x0 : D} : F_Wish_read [x0] = bnd (mm_Wish_read [.sh x0]) fun r => endOf r.1 := by rw [q_Wish_read]; exact fn_eq rfl
theorem o__law_bag {x0 x1 : D} : F__law_bag [x0, x1] = bnd (mm__law_bag [.sh x0, .sh x1, .un, .un, .un, .un]) fun r => endOf r.1 := by rw [q__law_bag]; exact fn_eq rfl
theorem o_Wish___eq__ {x0 x1 : D} : F_Wish___eq__ [x0, x1] = bnd (mm_Wish___eq__ [.sh x0, .sh x1]) fun r => endOf r.1 := by rw [q_Wish___eq__]; exact fn_eq rfl
theorem o__law_draw {x0 x1 : D} : F__law_draw [x1] x0 = bnd (mm__law_draw [.ow x0, .sh x1, .un, .un, .un]) fun r => bnd (endOf r.1) fun t => bnd (ownG r.2[0]?) fun d' => .ok (t, d') := by rw [q__law_draw]; exact fnR_eq rfl (by decide)
theorem o__law_one {x0 x1 : D} : F__law_one [x1] x0 = bnd (mm__law_one [.ow x0, .sh x1]) fun r => bnd (endOf r.1) fun t => bnd (ownG r.2[0]?) fun d' => .ok (t, d') := by rw [q__law_one]; exact fnR_eq rfl (by decide)
theorem o__law_level {x0 x1 x2 : D} : F__law_level [x1, x2] x0 = bnd (mm__law_level [.ow x0, .sh x1, .sh x2, .un, .un]) fun r => bnd (endOf r.1) fun t => bnd (ownG r.2[0]?) fun d' => .ok (t, d') := by rw [q__law_level]; exact fnR_eq rfl (by decide)
theorem o__law_more {x0 : D} : F__law_more [] x0 = bnd (mm__law_more [.ow x0]) fun r => bnd (endOf r.1) fun t => bnd (ownG r.2[0]?) fun d' => .ok (t, d') := by rw [q__law_more]; exact fnR_eq rfl (by decide)
theorem o__law_plea_r1 {x0 x1 x2 x3 : D} : F__law_plea_r1 [x1, x2, x3] x0 = bnd ((mm__law_plea F__law_plea_r0) [.ow x0, .sh x1, .sh x2, .sh x3, .un, .un]) fun r => bnd (endOf r.1) fun t => bnd (ownG r.2[0]?) fun d' => .ok (t, d') := by rw [q__law_plea_r1]; exact fnR_eq rfl (by decide)
theorem o__law_plea_r2 {x0 x1 x2 x3 : D} : F__law_plea_r2 [x1, x2, x3] x0 = bnd ((mm__law_plea F__law_plea_r1) [.ow x0, .sh x1, .sh x2, .sh x3, .un, .un]) fun r => bnd (endOf r.1) fun t => bnd (ownG r.2[0]?) fun d' => .ok (t, d') := by rw [q__law_plea_r2]; exact fnR_eq rfl (by decide)
theorem o__law_plea_r3 {x0 x1 x2 x3 : D} : F__law_plea_r3 [x1, x2, x3] x0 = bnd ((mm__law_plea F__law_plea_r2) [.ow x0, .sh x1, .sh x2, .sh x3, .un, .un]) fun r => bnd (endOf r.1) fun t => bnd (ownG r.2[0]?) fun d' => .ok (t, d') := by rw [q__law_plea_r3]; exact fnR_eq rfl (by decide)
theorem o__law_cords {x0 x1 : D} : F__law_cords [x1] x0 = bnd (mm__law_cords [.ow x0, .sh x1, .un, .un, .un, .un]) fun r => bnd (endOf r.1) fun t => bnd (ownG r.2[0]?) fun d' => .ok (t, d') := by rw [q__law_cords]; exact fnR_eq rfl (by decide)
theorem o__law_letters {x0 x1 x2 : D} : F__law_letters [x1, x2] x0 = bnd (mm__law_letters [.ow x0, .sh x1, .sh x2, .un, .un, .un]) fun r => bnd (endOf r.1) fun t => bnd (ownG r.2[0]?) fun d' => .ok (t, d') := by rw [q__law_letters]; exact fnR_eq rfl (by decide)
theorem o__law_words {x0 x1 : D} : F__law_words [x1] x0 = bnd (mm__law_words [.ow x0, .sh x1, .un, .un, .un, .un]) fun r => bnd (endOf r.1) fun t => bnd (ownG r.2[0]?) fun d' => .ok (t, d') := by rw [q__law_words]; exact fnR_eq rfl (by decide)
theorem o__law_shape {x0 : D} : F__law_shape [] x0 = bnd (mm__law_shape [.ow x0, .un, .un, .un, .un, .un]) fun r => bnd (endOf r.1) fun t => bnd (ownG r.2[0]?) fun d' => .ok (t, d') := by rw [q__law_shape]; exact fnR_eq rfl (by decide)
theorem o__law_level_text {x0 : D} : F__law_level_text [x0] = bnd (mm__law_level_text [.sh x0]) fun r => endOf r.1 := by rw [q__law_level_text]; exact fn_eq rfl
theorem o__law_written_r1 {x0 : D} : F__law_written_r1 [x0] = bnd ((mm__law_written F__law_written_r0) [.sh x0, .un, .un, .un, .un]) fun r => endOf r.1 := by rw [q__law_written_r1]; exact fn_eq rfl
theorem o__law_written_r2 {x0 : D} : F__law_written_r2 [x0] = bnd ((mm__law_written F__law_written_r1) [.sh x0, .un, .un, .un, .un]) fun r => endOf r.1 := by rw [q__law_written_r2]; exact fn_eq rfl
theorem o__law_written_r3 {x0 : D} : F__law_written_r3 [x0] = bnd ((mm__law_written F__law_written_r2) [.sh x0, .un, .un, .un, .un]) fun r => endOf r.1 := by rw [q__law_written_r3]; exact fn_eq rfl
theorem o__law_right {x0 : D} : F__law_right [] x0 = bnd (mm__law_right [.ow x0, .un, .un, .un, .un, .un, .un, .un, .un, .un, .un]) fun r => bnd (endOf r.1) fun t => bnd (ownG r.2[0]?) fun d' => .ok (t, d') := by rw [q__law_right]; exact fnR_eq rfl (by decide)
theorem o_law {x0 : D} : F_law [x0] = bnd (mm_law [.sh x0, .un, .un, .un]) fun r => endOf r.1 := by rw [q_law]; exact fn_eq rfl
end DY

set_option Elab.async false
set_option linter.all false
set_option maxRecDepth 100000
set_option maxHeartbeats 4000000
namespace DY
local instance : Tb := { T := [] }
/-! ### numbers by letters -/
abbrev Nm := List (Nat × Int)
def nO (m : Nm) (c : Nat) : Option Int := (m.find? fun p => decide (p.1 = c)).map (·.2)
def ng (m : Nm) (c : Nat) : Int := (nO m c).getD 0
/-! ### in order -/
def canon (f : Nat → Int) : Nm := (List.range' 97 26).filterMap fun c => if f c = 0 then none else some (c, f c)
/-! ### forms -/
@[reducible] def prD (p : Nat × Int) : D := .tup [.str [p.1], .int p.2]
@[reducible] def tmD (t : Nm) : D := .tup (t.map prD)
def fmN (f : Nat → Int) : List Nat := (canon f).map (·.1)
@[reducible] def fm (c : Int) (f : Nat → Int) : D := .ins 1 [.int c, tmD (canon f), .str (fmN f)]
end DY
namespace DY
/-! ### equality of data -/
mutual
theorem eqv_refl : ∀ (n : Nat) (x : D), dok n x = true → eqv x x = true
  | _, .non, _ => rfl
  | _, .bl b, _ => by simp [eqv]
  | _, .int i, _ => by simp [eqv]
  | _, .str s, _ => by simp [eqv]
  | n + 1, .tup xs, h => by
    have h' : doks n xs = true := by simpa [dok] using h
    show eqvs xs xs = true
    exact eqvs_refl n xs h'
  | n + 1, .kt xs, h => by
    have h' : doks n xs = true := by simpa [dok] using h
    show eqvs xs xs = true
    exact eqvs_refl n xs h'
  | n + 1, .lst xs, h => by
    have h' : doks n xs = true := by simpa [dok] using h
    show eqvs xs xs = true
    exact eqvs_refl n xs h'
  | n + 1, .fls xs, h => by
    have h' : doks n xs = true := by simpa [dok] using h
    show eqvs xs xs = true
    exact eqvs_refl n xs h'
  | 0, .tup xs, h => by simp [dok] at h
  | 0, .kt xs, h => by simp [dok] at h
  | 0, .lst xs, h => by simp [dok] at h
  | 0, .fls xs, h => by simp [dok] at h
  | _, .dic xs, h => by simp [dok] at h
  | _, .dct xs, h => by simp [dok] at h
  | _, .ins c xs, h => by simp [dok] at h
  | _, .ty t, h => by simp [dok] at h
  | _, .cls t, h => by simp [dok] at h
theorem eqvs_refl : ∀ (n : Nat) (xs : List D), doks n xs = true → eqvs xs xs = true
  | _, [], _ => by simp [eqvs]
  | n, x :: xs, h => by
    have h' : dok n x = true ∧ doks n xs = true := by simpa [doks] using h
    simp only [eqvs, eqv_refl n x h'.1, eqvs_refl n xs h'.2, Bool.and_self]
end
theorem doks_all {n : Nat} : ∀ {xs : List D}, (∀ x ∈ xs, dok n x = true) → doks n xs = true
  | [], _ => by simp [doks]
  | x :: xs, h => by
    simp only [doks, h x (List.mem_cons_self ..), doks_all fun y hy => h y (List.mem_cons_of_mem _ hy), Bool.and_self]
theorem dok_lst {n : Nat} {xs : List D} (h : ∀ x ∈ xs, dok n x = true) : dok (n + 1) (.lst xs) = true := by simp only [dok]; exact doks_all h
/-! ### worths -/
end DY

set_option Elab.async false
set_option linter.all false
set_option maxRecDepth 100000
set_option maxHeartbeats 4000000
namespace DY
local macro_rules | `(tactic| exists $es,*) => do
  let ls ← es.getElems.mapM fun e => `(Lean.Parser.Tactic.simpLemma| $e:term)
  `(tactic| simp -dsimp -implicitDefEqProofs (disch := walk_at "ds") only [bnd_ok, bnd_bnd, Wn_ok, cnd_t, cnd_f, cnd_n, cnd_p, cnd_q, varG_sh, varG_ow, movG_sh, movG_ow, lookG_sh, lookG_ow, ownG_ow, get_0, get_s, set_0, set_s, ev_var, ev_mov0, ev_look, ev_c, ev_bin, ev_un, ev_bor, ev_borR, ev_bor1, ev_nil, ev_cons, ev_n, ev_if, ev_and, ev_or, notR_bl, ev_not, ev_chain, ev_callR, ev_callT, ev_nk, isL_ok, ev_mut, intR_i, ev_part0, ev_part1, ev_slice, seqk_nx, seqk_rt, ev_seq, ev_next, keep_tt, keep_tf, ev_asg, ev_par, ev_gN, ev_gTt, ev_gTk, ev_g0, ev_g1, ev_asgT, ev_expr, ev_ret, ev_retV, ev_sif, ev_for, ev_while, ev_put, ev_fld, fldG_0, fldG_1, end_nx, end_rt, objE_go, ev_iv, items_lst, items_tup, items_str, ev_range, rngG_1, LK_nx, LK_bk, LK_rt, cndO_none, ev_lc, add_i, add_s, add_l, add_t, sub_i, mul_i, fdiv_i, mod_i, pow_i, neg_i, lt_i, le_i, le_s, gt_i, ge_i, eq_i, eq_s, eq_o, ne_i, ne_s, isN_i, isN_l, isN_o, sel_t, sel1_t, in_c, nin_c, ixt_0, ixt_1, ixt_2, ixt_3, ixl_0, ixl_1, ixl_2, sl_f, sl_t, sl_s, len_l, len_f, len_t, len_s, isi_int_i, isi_int_b, isi_bool_b, isi_bool_i, isi_str_s, isi_str_i, isi_str_t, isi_tup_t, isi_tup_i, isi_tup_s, isi_int_s, isi_int_t, isi_o, isi_c_t, abs_i, int_i, max_i, min_i, all_m, tuple_l, str_o, mkTup_e, mkLst_e, app_e, put_l0, put_l1, put_l2, fld_0, fld_1, wipe_0, wipe_s, okS_un, okS_sh, okS_us, noOw_0, noOw_s, back_0, back_s, getD_0, getD_s, listS_s, strG_e, u_mm_are_great, u_mm_are_small, u_mm_is_integer, u_mm_is_number, u_mm_is_moment, u_mt_is_level_1, u_mt_is_level_2, u_mt_is_level_3, u_mm_is_level, u_mt_shared_factor_1, u_mt_shared_factor_2, u_mm_shared_factor, u_mt_is_more_1, u_mm_is_more, u_mt_is_headed_1, u_mt_is_headed_2, u_mt_is_headed_3, u_mm_is_headed, u_mt_overs_in_1, u_mt_overs_in_2, u_mt_overs_in_3, u_mm_overs_in, u_mm_Wish___init__, u_mm_Ratio___str__, u_mt_Ratio___init___1, u_mt_Ratio___init___2, u_mt_Ratio___init___3, u_mm_Ratio___init__, u_mm_more_of, u_mm_text_of_level, u_mm_text_of, u_mm_Wish___str__, u_mt_level_in_1, u_mt_level_in_2, u_mt_level_in_3, u_mm_level_in, u_mm_is_written, u_mt_ratio_in_1, u_mt_ratio_in_2, u_mt_ratio_in_3, u_mm_ratio_in, u_mt_more_in_1, u_mm_more_in, u_mt_form_in_1, u_mt_form_in_2, u_mm_form_in, u_mt_wish_in_1, u_mm_wish_in, u_mm_Wish_read, u_mt__law_bag_1, u_mt__law_bag_2, u_mt__law_bag_3, u_mm__law_bag, u_mm_Wish___eq__, u_mt__law_draw_1, u_mt__law_draw_2, u_mt__law_draw_3, u_mt__law_draw_4, u_mt__law_draw_5, u_mm__law_draw, u_mm__law_one, u_mt__law_level_1, u_mt__law_level_2, u_mm__law_level, u_mm__law_more, u_mt__law_plea_1, u_mt__law_plea_2, u_mt__law_plea_3, u_mt__law_plea_4, u_mm__law_plea, u_mt__law_cords_1, u_mt__law_cords_2, u_mt__law_cords_3, u_mm__law_cords, u_mt__law_letters_1, u_mt__law_letters_2, u_mm__law_letters, u_mt__law_words_1, u_mt__law_words_2, u_mt__law_words_3, u_mm__law_words, u_mt__law_shape_1, u_mt__law_shape_2, u_mt__law_shape_3, u_mm__law_shape, u_mm__law_level_text, u_mt__law_written_1, u_mt__law_written_2, u_mm__law_written, u_mt__law_right_1, u_mt__law_right_2, u_mt__law_right_3, u_mt__law_right_4, u_mt__law_right_5, u_mt__law_right_6, u_mt__law_right_7, u_mt__law_right_8, u_mt__law_right_9, u_mm__law_right, u_mt_law_1, u_mt_law_2, u_mt_law_3, u_mt_law_4, u_mm_law, decide_true, decide_false, if_true, if_false, Bool.not_true, Bool.not_false, List.length_cons, List.length_nil, Int.cast_ofNat_Int, List.nil_append, List.cons_append, List.append_nil, and_self, and_true, true_and, and_false, false_and, List.length_map, Int.reduceToNat, Int.reducePow, Int.reduceSub, Int.reduceAdd, Int.reduceMul, Int.reduceNeg, $ls,*])
open SL (nm dn gI Bd)
local instance : Tb := { T := [] }
local macro_rules | `(tactic| walk_at "ds") => `(tactic| first | assumption | omega | (simp only [List.length_map, List.length_append, List.length_cons, List.length_nil]; omega) | exact mulOk_n (by omega) (by omega) | exact divOk_b (by omega) (by omega) | (refine id ?_; with_unfolding_all rfl) | (refine id ?_; with_unfolding_all exact Nat.le_of_ble_eq_true rfl) | (simp only [noOw_s, noOw_0, okS_un, okS_sh, okS_us, get_0, get_s, Bool.and_true]; done))
--#NEW
/-! ### bags -/
def BagOk (n : Nat) (d : D) : Prop := ∃ a b c : Int, d = .lst [.int a, .int b, .int c] ∧ 0 ≤ a ∧ 0 ≤ b ∧ b < 2147483648 ∧ 0 ≤ c ∧ c ≤ n
theorem BagOk.mono {n m : Nat} {d : D} (h : BagOk n d) (l : n ≤ m) : BagOk m d := by
  obtain ⟨a, b, c, e, h1, h2, h3, h4, h5⟩ := h
  exact ⟨a, b, c, e, h1, h2, h3, h4, by omega⟩
section
variable {γ : Type} {kk : Rv × D → R γ} {P : γ → Prop} {n : Nat} {bag : D} {w : Int}
theorem wp_draw (hb : BagOk n bag) (hn : n < 2 ^ 60) (hw : 0 < w) (hw2 : w < 2 ^ 64) (k : ∀ i d', 0 ≤ i → i < w → BagOk (n + 1) d' → Wn (kk ((.int i, false), d')) P) : Wn (bnd (F__law_draw [.int w] bag) kk) P := by
  obtain ⟨a, b, c, rfl, h1, h2, h3, h4, h5⟩ := hb
  rw [o__law_draw]
  exists bnd_ok
  refine wp_d (fun q => ?_) fun q => ?_
  · exists bnd_ok
    exact k _ _ (fm_lo _ hw) (fm_hi _ hw) ⟨a.fdiv w, b, c + 1, rfl, Int.fdiv_nonneg h1 (by omega), h2, h3, by omega, by omega⟩
  · have q1 := fm_lo (b + 104593 * (c + 1)) (j := 59951) (by decide)
    have q2 := fm_hi (b + 104593 * (c + 1)) (j := 59951) (by decide)
    exists bnd_ok
    exact k _ _ (fm_lo _ hw) (fm_hi _ hw) ⟨a, _, c + 1, rfl, h1, fm_lo _ (by decide), Int.lt_trans (fm_hi _ (by decide)) (by decide), by omega, by omega⟩
theorem wp_one {xs : List D} (hb : BagOk n bag) (hn : n < 2 ^ 60) (h0 : 0 < xs.length) (h1 : xs.length < 2 ^ 60) (k : ∀ x d', x ∈ xs → BagOk (n + 1) d' → Wn (kk ((x, false), d')) P) : Wn (bnd (F__law_one [.lst xs] bag) kk) P := by
  rw [o__law_one]
  exists bnd_ok
  refine wp_draw hb hn (by omega) (by omega) fun i d' q1 q2 hb' => ?_
  have e := ix_l q1 q2
  exists e
  exact k _ _ (List.getElem_mem _) hb'
theorem wp_onet {xs : List D} (hb : BagOk n bag) (hn : n < 2 ^ 60) (h0 : 0 < xs.length) (h1 : xs.length < 2 ^ 60) (k : ∀ x d', x ∈ xs → BagOk (n + 1) d' → Wn (kk ((x, false), d')) P) : Wn (bnd (F__law_one [.tup xs] bag) kk) P := by
  rw [o__law_one]
  exists bnd_ok
  refine wp_draw hb hn (by omega) (by omega) fun i d' q1 q2 hb' => ?_
  have e := ix_t q1 q2
  exists e
  exact k _ _ (List.getElem_mem _) hb'
theorem wp_ones {xs : List Nat} (hb : BagOk n bag) (hn : n < 2 ^ 60) (h0 : 0 < xs.length) (h1 : xs.length ≤ 1000) (k : ∀ x d', x ∈ xs → BagOk (n + 1) d' → Wn (kk ((.str [x], false), d')) P) : Wn (bnd (F__law_one [.str xs] bag) kk) P := by
  rw [o__law_one]
  exists bnd_ok
  refine wp_draw hb hn (by omega) (by omega) fun i d' q1 q2 hb' => ?_
  have e := ix_s (by omega) q1 q2
  exists e
  exact k _ _ (List.getElem_mem _) hb'
theorem wp_bag {ns : List Int} {k : Int} {kk : Rv → R γ} (hk : 0 ≤ k) (hk2 : k ≤ 63) (h : ∀ d, BagOk 0 d → Wn (kk (d, true)) P) : Wn (bnd (F__law_bag [.fls (ns.map D.int), .int k]) kk) P := by
  rw [o__law_bag]
  have loop : ∀ (cell seed : Int), 0 ≤ seed → seed < 2147483648 → Wn (bnd (forGo (gN 4) mt__law_bag_1 (cut (ns.map D.int) none (some 7)) [.sh (.fls (ns.map D.int)), .sh (.int k), .sh (.int cell), .sh (.int seed), .un, .un]) fun x => bnd (bnd (seqk mt__law_bag_2 x.1 x.2) fun r => endOf r.1) kk) P := fun cell seed s1 s2 => by
    rw [cut_map]
    refine wp_for (fun _ ρ => ∃ (seed : Int) (s : Slot), ρ = [.sh (.fls (ns.map D.int)), .sh (.int k), .sh (.int cell), .sh (.int seed), s, .un] ∧ 0 ≤ seed ∧ seed < 2147483648) ⟨seed, _, rfl, s1, s2⟩ (fun _ x ρ _ q => ?_) fun ρ q => ?_
    · obtain ⟨seed, s, rfl, h1, h2⟩ := q
      have q1 := fm_lo x (j := 1000081) (by decide)
      have q2 := fm_hi x (j := 1000081) (by decide)
      exists bnd_ok
      exact ⟨_, _, rfl, fm_lo _ (by decide), Int.lt_trans (fm_hi _ (by decide)) (by decide)⟩
    · obtain ⟨seed, s, rfl, h1, h2⟩ := q
      have ab : 0 ≤ if cell < 0 then -cell else cell := by split <;> omega
      have q1 := fm_lo cell (j := 999907) (by decide)
      have q2 := fm_hi cell (j := 999907) (by decide)
      by_cases z1 : cell < 0
      · exists bnd_ok
        refine h _ ?_; exact ⟨_, _, 0, rfl, ab, fm_lo _ (by decide), Int.lt_trans (fm_hi _ (by decide)) (by decide), by decide, by decide⟩
      · by_cases z2 : 1000000000000000 ≤ cell
        · exists bnd_ok
          refine h _ ?_; exact ⟨_, _, 0, rfl, ab, fm_lo _ (by decide), Int.lt_trans (fm_hi _ (by decide)) (by decide), by decide, by decide⟩
        · exists bnd_ok
          refine h _ ?_; exact ⟨_, _, 0, rfl, by decide, fm_lo _ (by decide), Int.lt_trans (fm_hi _ (by decide)) (by decide), by decide, by decide⟩
  by_cases q : k < ns.length
  · have e := ix_f hk (show k < (ns.map D.int).length by rw [List.length_map]; exact q)
    exists e, List.getElem_map
    exact loop _ _ (by omega) (by omega)
  · exists bnd_ok
    exact loop _ _ (by omega) (by omega)
end
/-! ### kinds of data -/
section
variable {p : Bool} {i : Int} {a : List Nat} {xs : List D} {kvs : List (Ky × D)} {c c' : Nat} {fs : List D}
theorem jsi_non_int : isiD [.non, .ty .int] = .ok (.bl false, false) := rfl
theorem jsi_non_str : isiD [.non, .ty .str] = .ok (.bl false, false) := rfl
theorem jsi_non_tuple : isiD [.non, .ty .tuple] = .ok (.bl false, false) := rfl
theorem jsi_bl_str : isiD [.bl p, .ty .str] = .ok (.bl false, false) := rfl
theorem jsi_bl_tuple : isiD [.bl p, .ty .tuple] = .ok (.bl false, false) := rfl
theorem jsi_lst_int : isiD [.lst xs, .ty .int] = .ok (.bl false, false) := rfl
theorem jsi_lst_str : isiD [.lst xs, .ty .str] = .ok (.bl false, false) := rfl
theorem jsi_lst_tuple : isiD [.lst xs, .ty .tuple] = .ok (.bl false, false) := rfl
end
/-! ### letters -/
theorem ltN1 (a b : Nat) : ltN [a] [b] = decide (a < b) := by simp [ltN]
def lowS (s : List Nat) : Bool := s.all fun c => decide (97 ≤ c) && decide (c ≤ 122)
def uppS (s : List Nat) : Bool := s.all fun c => decide (65 ≤ c) && decide (c ≤ 90)
theorem fm_some {α : Type} (f : α → Bool) (xs : List α) : xs.filterMap (fun x => some (D.bl (f x))) = (xs.map f).map D.bl := by
  rw [List.filterMap_eq_map']; simp
theorem all_id {α : Type} (f : α → Bool) (xs : List α) : (xs.map f).all id = xs.all f := by rw [List.all_map]; rfl
theorem e_low {s : List Nat} {a b : Int} (hs : s.length ≤ 1000) (h1 : a ≤ s.length) (h2 : s.length ≤ b) : F_are_small [.str s, .int a, .int b] = .ok (.bl (lowS s), false) := by
  rw [o_are_small]
  exists jsi_non_int, jsi_non_str, jsi_non_tuple, jsi_bl_str, jsi_bl_tuple, jsi_lst_int, jsi_lst_str, jsi_lst_tuple, ltN1
  rw [lc_eq (fun c => some (.bl (decide (97 ≤ c) && decide (c ≤ 122)))) rfl hs (fun x _ => ⟨[.sh (.str s), .sh (.int a), .sh (.int b), .sh (.str [x])], ?_, rfl, rfl⟩), fm_some]
  · exists jsi_non_int, jsi_non_str, jsi_non_tuple, jsi_bl_str, jsi_bl_tuple, jsi_lst_int, jsi_lst_str, jsi_lst_tuple, ltN1
    rw [all_id]; rfl
  · by_cases q : 97 ≤ x
    · exists jsi_non_int, jsi_non_str, jsi_non_tuple, jsi_bl_str, jsi_bl_tuple, jsi_lst_int, jsi_lst_str, jsi_lst_tuple, ltN1
      have : ¬ x < 97 := by omega
      rw [decide_eq_true q, ← decide_not, Bool.true_and, decide_eq_decide.mpr (show ¬ 122 < x ↔ x ≤ 122 by omega)]
    · have : x < 97 := by omega
      exists jsi_non_int, jsi_non_str, jsi_non_tuple, jsi_bl_str, jsi_bl_tuple, jsi_lst_int, jsi_lst_str, jsi_lst_tuple, ltN1
      rw [decide_eq_false q]; rfl
theorem e_low_f {s : List Nat} {a b : Int} (hs : s.length ≤ 1000) (h : ¬ (a ≤ s.length ∧ s.length ≤ b)) : F_are_small [.str s, .int a, .int b] = .ok (.bl false, false) := by
  rw [o_are_small]
  by_cases h1 : a ≤ s.length
  · exists jsi_non_int, jsi_non_str, jsi_non_tuple, jsi_bl_str, jsi_bl_tuple, jsi_lst_int, jsi_lst_str, jsi_lst_tuple, ltN1
  · exists jsi_non_int, jsi_non_str, jsi_non_tuple, jsi_bl_str, jsi_bl_tuple, jsi_lst_int, jsi_lst_str, jsi_lst_tuple, ltN1
theorem e_upp {s : List Nat} {a b : Int} (hs : s.length ≤ 1000) (h1 : a ≤ s.length) (h2 : s.length ≤ b) : F_are_great [.str s, .int a, .int b] = .ok (.bl (uppS s), false) := by
  rw [o_are_great]
  exists jsi_non_int, jsi_non_str, jsi_non_tuple, jsi_bl_str, jsi_bl_tuple, jsi_lst_int, jsi_lst_str, jsi_lst_tuple, ltN1
  rw [lc_eq (fun c => some (.bl (decide (65 ≤ c) && decide (c ≤ 90)))) rfl hs (fun x _ => ⟨[.sh (.str s), .sh (.int a), .sh (.int b), .sh (.str [x])], ?_, rfl, rfl⟩), fm_some]
  · exists jsi_non_int, jsi_non_str, jsi_non_tuple, jsi_bl_str, jsi_bl_tuple, jsi_lst_int, jsi_lst_str, jsi_lst_tuple, ltN1
    rw [all_id]; rfl
  · by_cases q : 65 ≤ x
    · exists jsi_non_int, jsi_non_str, jsi_non_tuple, jsi_bl_str, jsi_bl_tuple, jsi_lst_int, jsi_lst_str, jsi_lst_tuple, ltN1
      have : ¬ x < 65 := by omega
      rw [decide_eq_true q, ← decide_not, Bool.true_and, decide_eq_decide.mpr (show ¬ 90 < x ↔ x ≤ 90 by omega)]
    · have : x < 65 := by omega
      exists jsi_non_int, jsi_non_str, jsi_non_tuple, jsi_bl_str, jsi_bl_tuple, jsi_lst_int, jsi_lst_str, jsi_lst_tuple, ltN1
      rw [decide_eq_false q]; rfl
theorem e_upp1 {c : Nat} (h1 : 65 ≤ c) (h2 : c ≤ 90) : F_are_great [.str [c], .int 1, .int 1] = .ok (.bl true, false) := by
  rw [e_upp (by simp : [c].length ≤ 1000) (by simp) (by simp)]
  unfold uppS
  rw [List.all_cons, decide_eq_true h1, decide_eq_true h2]; rfl

local macro_rules | `(tactic| exists $es,*) => do
  let ls ← es.getElems.mapM fun e => `(Lean.Parser.Tactic.simpLemma| $e:term)
  `(tactic| simp -dsimp -implicitDefEqProofs (disch := walk_at "ds") only [bnd_ok, bnd_bnd, Wn_ok, cnd_t, cnd_f, cnd_n, cnd_p, cnd_q, varG_sh, varG_ow, movG_sh, movG_ow, lookG_sh, lookG_ow, ownG_ow, get_0, get_s, set_0, set_s, ev_var, ev_mov0, ev_look, ev_c, ev_bin, ev_un, ev_bor, ev_borR, ev_bor1, ev_nil, ev_cons, ev_n, ev_if, ev_and, ev_or, notR_bl, ev_not, ev_chain, ev_callR, ev_callT, ev_nk, isL_ok, ev_mut, intR_i, ev_part0, ev_part1, ev_slice, seqk_nx, seqk_rt, ev_seq, ev_next, keep_tt, keep_tf, ev_asg, ev_par, ev_gN, ev_gTt, ev_gTk, ev_g0, ev_g1, ev_asgT, ev_expr, ev_ret, ev_retV, ev_sif, ev_for, ev_while, ev_put, ev_fld, fldG_0, fldG_1, end_nx, end_rt, objE_go, ev_iv, items_lst, items_tup, items_str, ev_range, rngG_1, LK_nx, LK_bk, LK_rt, cndO_none, ev_lc, add_i, add_s, add_l, add_t, sub_i, mul_i, fdiv_i, mod_i, pow_i, neg_i, lt_i, le_i, le_s, gt_i, ge_i, eq_i, eq_s, eq_o, ne_i, ne_s, isN_i, isN_l, isN_o, sel_t, sel1_t, in_c, nin_c, ixt_0, ixt_1, ixt_2, ixt_3, ixl_0, ixl_1, ixl_2, sl_f, sl_t, sl_s, len_l, len_f, len_t, len_s, isi_int_i, isi_int_b, isi_bool_b, isi_bool_i, isi_str_s, isi_str_i, isi_str_t, isi_tup_t, isi_tup_i, isi_tup_s, isi_int_s, isi_int_t, isi_o, isi_c_t, abs_i, int_i, max_i, min_i, all_m, tuple_l, str_o, mkTup_e, mkLst_e, app_e, put_l0, put_l1, put_l2, fld_0, fld_1, wipe_0, wipe_s, okS_un, okS_sh, okS_us, noOw_0, noOw_s, back_0, back_s, getD_0, getD_s, listS_s, strG_e, u_mm_are_great, u_mm_are_small, u_mm_is_integer, u_mm_is_number, u_mm_is_moment, u_mt_is_level_1, u_mt_is_level_2, u_mt_is_level_3, u_mm_is_level, u_mt_shared_factor_1, u_mt_shared_factor_2, u_mm_shared_factor, u_mt_is_more_1, u_mm_is_more, u_mt_is_headed_1, u_mt_is_headed_2, u_mt_is_headed_3, u_mm_is_headed, u_mt_overs_in_1, u_mt_overs_in_2, u_mt_overs_in_3, u_mm_overs_in, u_mm_Wish___init__, u_mm_Ratio___str__, u_mt_Ratio___init___1, u_mt_Ratio___init___2, u_mt_Ratio___init___3, u_mm_Ratio___init__, u_mm_more_of, u_mm_text_of_level, u_mm_text_of, u_mm_Wish___str__, u_mt_level_in_1, u_mt_level_in_2, u_mt_level_in_3, u_mm_level_in, u_mm_is_written, u_mt_ratio_in_1, u_mt_ratio_in_2, u_mt_ratio_in_3, u_mm_ratio_in, u_mt_more_in_1, u_mm_more_in, u_mt_form_in_1, u_mt_form_in_2, u_mm_form_in, u_mt_wish_in_1, u_mm_wish_in, u_mm_Wish_read, u_mt__law_bag_1, u_mt__law_bag_2, u_mt__law_bag_3, u_mm__law_bag, u_mm_Wish___eq__, u_mt__law_draw_1, u_mt__law_draw_2, u_mt__law_draw_3, u_mt__law_draw_4, u_mt__law_draw_5, u_mm__law_draw, u_mm__law_one, u_mt__law_level_1, u_mt__law_level_2, u_mm__law_level, u_mm__law_more, u_mt__law_plea_1, u_mt__law_plea_2, u_mt__law_plea_3, u_mt__law_plea_4, u_mm__law_plea, u_mt__law_cords_1, u_mt__law_cords_2, u_mt__law_cords_3, u_mm__law_cords, u_mt__law_letters_1, u_mt__law_letters_2, u_mm__law_letters, u_mt__law_words_1, u_mt__law_words_2, u_mt__law_words_3, u_mm__law_words, u_mt__law_shape_1, u_mt__law_shape_2, u_mt__law_shape_3, u_mm__law_shape, u_mm__law_level_text, u_mt__law_written_1, u_mt__law_written_2, u_mm__law_written, u_mt__law_right_1, u_mt__law_right_2, u_mt__law_right_3, u_mt__law_right_4, u_mt__law_right_5, u_mt__law_right_6, u_mt__law_right_7, u_mt__law_right_8, u_mt__law_right_9, u_mm__law_right, u_mt_law_1, u_mt_law_2, u_mt_law_3, u_mt_law_4, u_mm_law, jsi_non_int, jsi_non_str, jsi_non_tuple, jsi_bl_str, jsi_bl_tuple, jsi_lst_int, jsi_lst_str, jsi_lst_tuple, ltN1, decide_true, decide_false, if_true, if_false, Bool.not_true, Bool.not_false, List.length_cons, List.length_nil, Int.cast_ofNat_Int, List.nil_append, List.cons_append, List.append_nil, and_self, and_true, true_and, and_false, false_and, List.length_map, Int.reduceToNat, Int.reducePow, Int.reduceSub, Int.reduceAdd, Int.reduceMul, Int.reduceNeg, $ls,*])
--#NEW
/-! ### integers among values -/
section
variable {p : Bool} {i : Int} {a : List Nat} {xs : List D} {kvs : List (Ky × D)}
theorem e_isint {i : Int} : F_is_integer [.int i] = .ok (.bl true, false) := by rw [o_is_integer]; exists bnd_ok
theorem e_isint_non : F_is_integer [.non] = .ok (.bl false, false) := by rw [o_is_integer]; exists e_isint
theorem e_isint_bl : F_is_integer [.bl p] = .ok (.bl false, false) := by rw [o_is_integer]; exists e_isint, e_isint_non
theorem e_isint_str : F_is_integer [.str a] = .ok (.bl false, false) := by rw [o_is_integer]; exists e_isint, e_isint_non, e_isint_bl
theorem e_isint_tup : F_is_integer [.tup xs] = .ok (.bl false, false) := by rw [o_is_integer]; exists e_isint, e_isint_non, e_isint_bl, e_isint_str
theorem e_isint_lst : F_is_integer [.lst xs] = .ok (.bl false, false) := by rw [o_is_integer]; exists e_isint, e_isint_non, e_isint_bl, e_isint_str, e_isint_tup
end
section
variable {a b : Int}
theorem e_factor (hb : 0 < b) (hz : Bd 8000 b) : F_shared_factor [.int a, .int b] = .ok (.int (gI a b), false) := by
  refine Wn.eq ?_
  rw [o_shared_factor]
  exists e_isint, e_isint_non, e_isint_bl, e_isint_str, e_isint_tup, e_isint_lst
  refine wp_while (fun ρ : Env => match (ρ[3]? : Option Slot) with | some (.sh (.int l)) => l.toNat | _ => 0) (fun ρ => ∃ x y : Int, ρ = [.sh (.int a), .sh (.int b), .sh (.int x), .sh (.int y)] ∧ 0 ≤ x ∧ 0 ≤ y ∧ gI x y = gI a b ∧ Bd 8000 y) ⟨_, _, rfl, by split <;> omega, by split <;> omega, SL.gI_abs a b, by split; exact hz.neg; exact hz⟩ (fun ρ q => ?_) fun ρ q => ?_
  · obtain ⟨x, y, rfl, _, h2, _, h4⟩ := q
    show y.toNat < 2 ^ 9000
    have : y.toNat ≤ y.natAbs := by omega
    exact Nat.lt_of_le_of_lt this (Nat.lt_of_lt_of_le h4 (Nat.pow_le_pow_right (by decide) (by decide)))
  · obtain ⟨x, y, rfl, h1, h2, h3, h4⟩ := q
    by_cases q : 0 < y
    · exists e_isint, e_isint_non, e_isint_bl, e_isint_str, e_isint_tup, e_isint_lst
      have q1 := fm_lo x q
      have q2 := fm_hi x q
      refine ⟨⟨y, _, rfl, h2, q1, by rw [SL.gcd_turn h1 q]; exact h3, h4.of_le (by omega)⟩, ?_⟩
      show (x.fmod y).toNat < y.toNat
      omega
    · have e : y = 0 := by omega
      subst e
      exists e_isint, e_isint_non, e_isint_bl, e_isint_str, e_isint_tup, e_isint_lst
      rw [SL.gI_zero h1] at h3
      rw [h3]
theorem fdiv_gI {n d : Int} (h : 0 < d) : n.fdiv (gI n d) = nm n d ∧ d.fdiv (gI n d) = dn n d := by
  have g := SL.gI_pos (n := n) (d := d) (by omega)
  unfold nm dn
  exact ⟨Int.fdiv_eq_ediv_of_nonneg _ (by omega), Int.fdiv_eq_ediv_of_nonneg _ (by omega)⟩
theorem divOk_g {j : Int} (h : 0 < j) (hz : Bd 8000 j) : divOk j = true := by
  unfold divOk
  rw [Bool.and_eq_true, decide_eq_true_eq, decide_eq_true_eq]
  refine ⟨by omega, ?_⟩
  have : j.natAbs.log2 < 8000 := (Nat.log2_lt (by omega)).mpr hz
  omega
end

local macro_rules | `(tactic| exists $es,*) => do
  let ls ← es.getElems.mapM fun e => `(Lean.Parser.Tactic.simpLemma| $e:term)
  `(tactic| simp -dsimp -implicitDefEqProofs (disch := walk_at "ds") only [bnd_ok, bnd_bnd, Wn_ok, cnd_t, cnd_f, cnd_n, cnd_p, cnd_q, varG_sh, varG_ow, movG_sh, movG_ow, lookG_sh, lookG_ow, ownG_ow, get_0, get_s, set_0, set_s, ev_var, ev_mov0, ev_look, ev_c, ev_bin, ev_un, ev_bor, ev_borR, ev_bor1, ev_nil, ev_cons, ev_n, ev_if, ev_and, ev_or, notR_bl, ev_not, ev_chain, ev_callR, ev_callT, ev_nk, isL_ok, ev_mut, intR_i, ev_part0, ev_part1, ev_slice, seqk_nx, seqk_rt, ev_seq, ev_next, keep_tt, keep_tf, ev_asg, ev_par, ev_gN, ev_gTt, ev_gTk, ev_g0, ev_g1, ev_asgT, ev_expr, ev_ret, ev_retV, ev_sif, ev_for, ev_while, ev_put, ev_fld, fldG_0, fldG_1, end_nx, end_rt, objE_go, ev_iv, items_lst, items_tup, items_str, ev_range, rngG_1, LK_nx, LK_bk, LK_rt, cndO_none, ev_lc, add_i, add_s, add_l, add_t, sub_i, mul_i, fdiv_i, mod_i, pow_i, neg_i, lt_i, le_i, le_s, gt_i, ge_i, eq_i, eq_s, eq_o, ne_i, ne_s, isN_i, isN_l, isN_o, sel_t, sel1_t, in_c, nin_c, ixt_0, ixt_1, ixt_2, ixt_3, ixl_0, ixl_1, ixl_2, sl_f, sl_t, sl_s, len_l, len_f, len_t, len_s, isi_int_i, isi_int_b, isi_bool_b, isi_bool_i, isi_str_s, isi_str_i, isi_str_t, isi_tup_t, isi_tup_i, isi_tup_s, isi_int_s, isi_int_t, isi_o, isi_c_t, abs_i, int_i, max_i, min_i, all_m, tuple_l, str_o, mkTup_e, mkLst_e, app_e, put_l0, put_l1, put_l2, fld_0, fld_1, wipe_0, wipe_s, okS_un, okS_sh, okS_us, noOw_0, noOw_s, back_0, back_s, getD_0, getD_s, listS_s, strG_e, u_mm_are_great, u_mm_are_small, u_mm_is_integer, u_mm_is_number, u_mm_is_moment, u_mt_is_level_1, u_mt_is_level_2, u_mt_is_level_3, u_mm_is_level, u_mt_shared_factor_1, u_mt_shared_factor_2, u_mm_shared_factor, u_mt_is_more_1, u_mm_is_more, u_mt_is_headed_1, u_mt_is_headed_2, u_mt_is_headed_3, u_mm_is_headed, u_mt_overs_in_1, u_mt_overs_in_2, u_mt_overs_in_3, u_mm_overs_in, u_mm_Wish___init__, u_mm_Ratio___str__, u_mt_Ratio___init___1, u_mt_Ratio___init___2, u_mt_Ratio___init___3, u_mm_Ratio___init__, u_mm_more_of, u_mm_text_of_level, u_mm_text_of, u_mm_Wish___str__, u_mt_level_in_1, u_mt_level_in_2, u_mt_level_in_3, u_mm_level_in, u_mm_is_written, u_mt_ratio_in_1, u_mt_ratio_in_2, u_mt_ratio_in_3, u_mm_ratio_in, u_mt_more_in_1, u_mm_more_in, u_mt_form_in_1, u_mt_form_in_2, u_mm_form_in, u_mt_wish_in_1, u_mm_wish_in, u_mm_Wish_read, u_mt__law_bag_1, u_mt__law_bag_2, u_mt__law_bag_3, u_mm__law_bag, u_mm_Wish___eq__, u_mt__law_draw_1, u_mt__law_draw_2, u_mt__law_draw_3, u_mt__law_draw_4, u_mt__law_draw_5, u_mm__law_draw, u_mm__law_one, u_mt__law_level_1, u_mt__law_level_2, u_mm__law_level, u_mm__law_more, u_mt__law_plea_1, u_mt__law_plea_2, u_mt__law_plea_3, u_mt__law_plea_4, u_mm__law_plea, u_mt__law_cords_1, u_mt__law_cords_2, u_mt__law_cords_3, u_mm__law_cords, u_mt__law_letters_1, u_mt__law_letters_2, u_mm__law_letters, u_mt__law_words_1, u_mt__law_words_2, u_mt__law_words_3, u_mm__law_words, u_mt__law_shape_1, u_mt__law_shape_2, u_mt__law_shape_3, u_mm__law_shape, u_mm__law_level_text, u_mt__law_written_1, u_mt__law_written_2, u_mm__law_written, u_mt__law_right_1, u_mt__law_right_2, u_mt__law_right_3, u_mt__law_right_4, u_mt__law_right_5, u_mt__law_right_6, u_mt__law_right_7, u_mt__law_right_8, u_mt__law_right_9, u_mm__law_right, u_mt_law_1, u_mt_law_2, u_mt_law_3, u_mt_law_4, u_mm_law, jsi_non_int, jsi_non_str, jsi_non_tuple, jsi_bl_str, jsi_bl_tuple, jsi_lst_int, jsi_lst_str, jsi_lst_tuple, ltN1, e_isint, e_isint_non, e_isint_bl, e_isint_str, e_isint_tup, e_isint_lst, decide_true, decide_false, if_true, if_false, Bool.not_true, Bool.not_false, List.length_cons, List.length_nil, Int.cast_ofNat_Int, List.nil_append, List.cons_append, List.append_nil, and_self, and_true, true_and, and_false, false_and, List.length_map, Int.reduceToNat, Int.reducePow, Int.reduceSub, Int.reduceAdd, Int.reduceMul, Int.reduceNeg, $ls,*])
--#NEW
/-! ### texts of fractions -/
@[reducible] def rat (n d : Int) : D := .ins 0 [.int (nm n d), .int (dn n d)]
section
variable {t : List Nat} {n d : Int}
theorem e_ratio (hd : 0 < d) (hz : Bd 8000 d) : mkObj 0 F_Ratio___init__ [.int n, .int d] = .ok (rat n d, false) := by
  have gp := SL.gI_pos (n := n) (d := d) (by omega)
  have gd : divOk (gI n d) = true := divOk_g gp (hz.of_le (SL.gI_le hd))
  rw [obj_eq, o_Ratio___init__]
  exists e_factor hd hz, (fdiv_gI hd).1, (fdiv_gI hd).2
def dgB (c : Nat) : Bool := decide (48 ≤ c) && decide (c ≤ 57)
def wrB (t : List Nat) : Bool := !t.isEmpty && (t.all dgB && (decide (t = [48]) || !decide (t.head? = some 48)))
theorem dg_mem (x : Nat) : decide (x ∈ [48, 49, 50, 51, 52, 53, 54, 55, 56, 57]) = dgB x := by
  unfold dgB
  rw [← Bool.decide_and]
  refine decide_eq_decide.mpr ?_
  simp only [List.mem_cons, List.not_mem_nil, or_false]
  omega
theorem ixs0 {c : Nat} {r : List Nat} (h : (c :: r).length ≤ 100000) : ixD (.str (c :: r)) (.int 0) = .ok (.str [c], false) := by
  unfold ixD
  dsimp only
  rw [if_pos h]
  have : atI (c :: r) 0 = some c := by
    unfold atI ixN
    rw [if_pos (by omega), if_pos (by simp)]; rfl
  rw [this]; rfl
theorem e_written (h : t.length ≤ 1000) : F_is_written [.str t] = .ok (.bl (wrB t), false) := by
  rw [o_is_written]
  cases t with
  | nil =>
    exists e_ratio
    rfl
  | cons c r =>
    have e0 : decide (c :: r = []) = false := decide_eq_false (fun z => nomatch z)
    exists e_ratio, e0
    rw [lc_eq (fun x => some (.bl (dgB x))) rfl h (fun x _ => ⟨[.sh (.str (c :: r)), .sh (.str [x])], ?_, rfl, rfl⟩), fm_some]
    · exists e_ratio
      rw [all_id]
      cases q : (c :: r).all dgB with
      | false =>
        exists e_ratio
        show _ = R.ok (D.bl (true && ((c :: r).all dgB && _)), false)
        rw [q]; rfl
      | true =>
        exists e_ratio
        by_cases q1 : c :: r = [48]
        · have q2 : decide (c :: r = [48]) = true := decide_eq_true q1
          exists e_ratio, q2
          show _ = R.ok (D.bl (true && ((c :: r).all dgB && (decide (c :: r = [48]) || _))), false)
          rw [q, q2]; rfl
        · have q2 : decide (c :: r = [48]) = false := decide_eq_false q1
          exists e_ratio, q2, ixs0 (show (c :: r).length ≤ 100000 by omega)
          show _ = R.ok (D.bl (true && ((c :: r).all dgB && (decide (c :: r = [48]) || !decide (some c = some 48)))), false)
          rw [q, q2]
          simp
    · exists e_ratio
      rw [dg_mem]
/-- what a text writes, top and bottom -/
def ratT (t : List Nat) : Option (Int × Int) :=
  let sg : Int := if t.take 1 = [45] then -1 else 1
  let r := if t.take 1 = [45] then t.drop 1 else t
  if 47 ∈ r then
    if wrB (bef 47 r) && wrB (beh 47 r) && decide (0 < valN (beh 47 r)) then some (sg * (valN (bef 47 r) : Int), (valN (beh 47 r) : Int)) else none
  else if wrB r then some (sg * (valN r : Int), 1) else none
theorem wr_num {l : List Nat} (h : wrB l = true) (h2 : l.length ≤ 600) : intSD [.str l] = .ok (.int (valN l : Int), false) := by
  unfold wrB at h
  rw [Bool.and_eq_true, Bool.and_eq_true] at h
  have hd : isDg l = true := by
    unfold isDg
    rw [Bool.and_eq_true]
    exact ⟨h.2.1, h.1⟩
  have hn : numT l = some (valN l : Int) := by
    unfold numT
    split
    · rename_i l2
      have := h.2.1
      rw [List.all_cons] at this
      exact absurd (Bool.and_eq_true_iff.mp this).1 (by decide)
    · rw [if_pos hd]
  unfold intSD
  dsimp only
  rw [if_pos h2, hn]; rfl
theorem valN_le : ∀ (l : List Nat) (a : Nat), (∀ c ∈ l, c ≤ 57) → l.foldl (fun acc c => acc * 10 + (c - 48)) a < (a + 1) * 10 ^ l.length
  | [], a, _ => by simp
  | c :: l, a, h => by
    rw [List.foldl_cons]
    have h1 := valN_le l (a * 10 + (c - 48)) fun d hd => h d (List.mem_cons_of_mem _ hd)
    have h2 := h c (List.mem_cons_self ..)
    rw [List.length_cons, Nat.pow_succ]
    refine Nat.lt_of_lt_of_le h1 ?_
    calc (a * 10 + (c - 48) + 1) * 10 ^ l.length ≤ ((a + 1) * 10) * 10 ^ l.length := Nat.mul_le_mul_right _ (by omega)
      _ = (a + 1) * (10 ^ l.length * 10) := by rw [Nat.mul_assoc, Nat.mul_comm 10]
theorem wr_bd {l : List Nat} (h : wrB l = true) (hl : l.length ≤ 500) : Bd 8000 (valN l : Int) := by
  unfold wrB at h
  rw [Bool.and_eq_true, Bool.and_eq_true] at h
  have h1 := valN_le l 0 fun c hc => by
    have := List.all_eq_true.mp h.2.1 c hc
    unfold dgB at this
    rw [Bool.and_eq_true] at this
    exact of_decide_eq_true this.2
  have h2 : valN l < 10 ^ 500 := by
    refine Nat.lt_of_lt_of_le h1 ?_
    rw [Nat.zero_add, Nat.one_mul]
    exact Nat.pow_le_pow_right (by decide) hl
  show (valN l : Int).natAbs < 2 ^ 8000
  rw [Int.natAbs_natCast]
  exact Nat.lt_trans h2 (by decide +kernel)
theorem mul_sg {v sg : Int} (hv : Bd 8000 v) (hs : sg = 1 ∨ sg = -1) : mulOk sg v = true := by
  unfold mulOk
  have h1 : sg.natAbs.log2 = 0 := by rcases hs with rfl | rfl <;> rfl
  have h2 : v.natAbs.log2 < 8000 ∨ v.natAbs = 0 := by
    by_cases q : v.natAbs = 0
    · exact .inr q
    · exact .inl ((Nat.log2_lt q).mpr hv)
  refine decide_eq_true ?_
  rcases h2 with h2 | h2
  · omega
  · rw [h2]; have : Nat.log2 0 = 0 := by decide
    omega
theorem bef_len {c : Nat} : ∀ a : List Nat, (bef c a).length ≤ a.length
  | [] => Nat.le_refl _
  | x :: xs => by
    unfold bef
    have := bef_len (c := c) xs
    split
    · exact Nat.zero_le _
    · simp only [List.length_cons]; omega
theorem beh_len {c : Nat} : ∀ a : List Nat, (beh c a).length ≤ a.length
  | [] => Nat.le_refl _
  | x :: xs => by
    unfold beh
    have := beh_len (c := c) xs
    split <;> (simp only [List.length_cons]; omega)
theorem part_y {c : Nat} {a : List Nat} (hl : a.length ≤ 100000) (h : c ∈ a) : partD (.str a) (.str [c]) = .ok (.kt [.str (bef c a), .str [c], .str (beh c a)], false) := by
  unfold partD; dsimp only; rw [if_pos hl, if_pos h]
theorem part_n {c : Nat} {a : List Nat} (hl : a.length ≤ 100000) (h : c ∉ a) : partD (.str a) (.str [c]) = .ok (.kt [.str a, .str [], .str []], false) := by
  unfold partD; dsimp only; rw [if_pos hl, if_neg h]
theorem e47 : decide (([47] : List Nat) = []) = false := rfl
/-- behind the sign -/
theorem rin_tail {sg : Int} {r : List Nat} (hs : sg = 1 ∨ sg = -1) (h : r.length ≤ 500) :
    (bnd (partD (.str r) (.str [47])) fun x => bnd (bnd (bnd (.ok (x, [Slot.sh (.str t), .sh (.int sg), .un, .un, .un, .un])) fun r => bnd (gT [gN 2, gN 3, gN 4] r.1.1 r.2) fun ρ2 => .ok (Out.nx, ρ2)) fun r => seqk mt_ratio_in_2 r.1 r.2) fun r => endOf r.1) =
      .ok (match (if 47 ∈ r then (if wrB (bef 47 r) && wrB (beh 47 r) && decide (0 < valN (beh 47 r)) then some (sg * (valN (bef 47 r) : Int), (valN (beh 47 r) : Int)) else none) else if wrB r then some (sg * (valN r : Int), 1) else none) with | some p => (rat p.1 p.2, false) | none => (.non, false)) := by
  have h1 := bef_len (c := 47) r
  have h2 := beh_len (c := 47) r
  by_cases q : 47 ∈ r
  · rw [if_pos q]
    cases w1 : wrB (bef 47 r) with
    | false =>
      exists e_ratio, e47, part_y (show r.length ≤ 100000 by omega) q, e_written (show (bef 47 r).length ≤ 1000 by omega), w1
      rfl
    | true =>
      cases w2 : wrB (beh 47 r) with
      | false =>
        exists e_ratio, e47, part_y (show r.length ≤ 100000 by omega) q, e_written (show (bef 47 r).length ≤ 1000 by omega), w1, e_written (show (beh 47 r).length ≤ 1000 by omega), w2
        rfl
      | true =>
        have m1 : mulOk sg (valN (bef 47 r) : Int) = true := mul_sg (wr_bd w1 (by omega)) hs
        by_cases q3 : 0 < valN (beh 47 r)
        · have q4 : (0 : Int) < (valN (beh 47 r) : Int) := by omega
          exists e_ratio, e47, part_y (show r.length ≤ 100000 by omega) q, e_written (show (bef 47 r).length ≤ 1000 by omega), w1, e_written (show (beh 47 r).length ≤ 1000 by omega), w2, wr_num w1 (by omega), wr_num w2 (by omega), m1, decide_eq_true q4, e_ratio q4 (wr_bd w2 (by omega))
          rw [decide_eq_true q3]
          rfl
        · have q4 : ¬ (0 : Int) < (valN (beh 47 r) : Int) := by omega
          exists e_ratio, e47, part_y (show r.length ≤ 100000 by omega) q, e_written (show (bef 47 r).length ≤ 1000 by omega), w1, e_written (show (beh 47 r).length ≤ 1000 by omega), w2, wr_num w1 (by omega), wr_num w2 (by omega), m1, decide_eq_false q4
          rw [decide_eq_false q3]
          rfl
  · rw [if_neg q]
    cases w1 : wrB r with
    | false =>
      exists e_ratio, part_n (show r.length ≤ 100000 by omega) q, e_written (show r.length ≤ 1000 by omega), w1
      rfl
    | true =>
      have m1 : mulOk sg (valN r : Int) = true := mul_sg (wr_bd w1 (by omega)) hs
      exists e_ratio, part_n (show r.length ≤ 100000 by omega) q, e_written (show r.length ≤ 1000 by omega), w1, wr_num w1 (by omega), m1, e_ratio (show (0 : Int) < 1 by decide) (show Bd 8000 1 from by show (1 : Nat) < 2 ^ 8000; decide +kernel)
theorem e_ratio_in (h : t.length ≤ 500) : F_ratio_in [.str t] = .ok (match ratT t with | some p => (rat p.1 p.2, false) | none => (.non, false)) := by
  rw [o_ratio_in]
  have c1 : cut t none (some 1) = t.take 1 := by
    unfold cut sIx
    dsimp only
    rw [List.drop_zero, Nat.sub_zero]
    cases t with
    | nil => rfl
    | cons x xs =>
      show (x :: xs).take (min 1 (xs.length + 1)) = _
      rw [Nat.min_eq_left (by omega)]
  have c2 : cut t (some 1) none = t.drop 1 := by
    unfold cut sIx
    dsimp only
    cases t with
    | nil => rfl
    | cons x xs =>
      show ((x :: xs).drop (min 1 (xs.length + 1))).take (xs.length + 1 - min 1 (xs.length + 1)) = _
      rw [Nat.min_eq_left (by omega), Nat.add_sub_cancel]
      exact List.take_length
  have hs : sliceD none (some 1) (.str t) = .ok (.str (t.take 1), false) := by
    unfold sliceD
    dsimp only
    rw [if_pos (by omega), c1]; rfl
  have hl1 : (t.drop 1).length ≤ 500 := by rw [List.length_drop]; omega
  unfold ratT
  by_cases q : t.take 1 = [45]
  · have q1 : decide (t.take 1 = [45]) = true := decide_eq_true q
    rw [if_pos q, if_pos q]
    exists e_ratio, hs, q1
    rw [c2]
    exact rin_tail (.inr rfl) hl1
  · have q1 : decide (t.take 1 = [45]) = false := decide_eq_false q
    rw [if_neg q, if_neg q]
    exists e_ratio, hs, q1
    exact rin_tail (.inl rfl) h
end

--#NEW
/-! ### plain values -/
mutual
def pl : Nat → Nat → D → Bool
  | _, _, .non => true
  | _, _, .bl _ => true
  | _, _, .int i => decide (i.natAbs ≤ 1000)
  | _, _, .str l => sok l && decide (l.length ≤ 100)
  | n + 1, w, .tup xs => decide (xs.length ≤ w) && pls n w xs
  | n + 1, w, .lst xs => decide (xs.length ≤ w) && pls n w xs
  | _, _, _ => false
def pls : Nat → Nat → List D → Bool
  | _, _, [] => true
  | n, w, x :: xs => pl n w x && pls n w xs
end
theorem pls_iff {n w : Nat} : ∀ {xs : List D}, pls n w xs = true ↔ ∀ x ∈ xs, pl n w x = true
  | [] => by simp [pls]
  | x :: xs => by rw [pls, Bool.and_eq_true, pls_iff]; simp
theorem pl_tup {n w : Nat} {xs : List D} (h : pl n w (.tup xs) = true) : ∃ m, n = m + 1 ∧ xs.length ≤ w ∧ ∀ x ∈ xs, pl m w x = true := by
  cases n with
  | zero => cases h
  | succ m =>
    rw [pl, Bool.and_eq_true, pls_iff, decide_eq_true_eq] at h
    exact ⟨m, rfl, h⟩
theorem tup_pl {n w : Nat} {xs : List D} (h1 : xs.length ≤ w) (h2 : ∀ x ∈ xs, pl n w x = true) : pl (n + 1) w (.tup xs) = true := by
  rw [pl, Bool.and_eq_true, pls_iff, decide_eq_true_eq]; exact ⟨h1, h2⟩
theorem lst_pl {n w : Nat} {xs : List D} (h1 : xs.length ≤ w) (h2 : ∀ x ∈ xs, pl n w x = true) : pl (n + 1) w (.lst xs) = true := by
  rw [pl, Bool.and_eq_true, pls_iff, decide_eq_true_eq]; exact ⟨h1, h2⟩
theorem pl_lst {n w : Nat} {xs : List D} (h : pl n w (.lst xs) = true) : ∃ m, n = m + 1 ∧ xs.length ≤ w ∧ ∀ x ∈ xs, pl m w x = true := by
  cases n with
  | zero => cases h
  | succ m =>
    rw [pl, Bool.and_eq_true, pls_iff, decide_eq_true_eq] at h
    exact ⟨m, rfl, h⟩
theorem pl_any {n w : Nat} {d : D} {P : Prop} (h : pl n w d = true) (h0 : d = .non → P) (h1 : ∀ b, d = .bl b → P) (h2 : ∀ i, d = .int i → i.natAbs ≤ 1000 → P) (h3 : ∀ s, d = .str s → sok s = true → s.length ≤ 100 → P) (h4 : ∀ xs, d = .tup xs → P) (h5 : ∀ xs, d = .lst xs → P) : P := by
  cases d with
  | non => exact h0 rfl
  | bl b => exact h1 b rfl
  | int i => exact h2 i rfl (by simpa [pl] using h)
  | str s =>
    rw [show pl n w (.str s) = (sok s && decide (s.length ≤ 100)) by cases n <;> rfl, Bool.and_eq_true, decide_eq_true_eq] at h
    exact h3 s rfl h.1 h.2
  | tup xs => exact h4 xs rfl
  | lst xs => exact h5 xs rfl
  | _ => cases n <;> cases h
theorem str_pl {n w : Nat} {s : List Nat} (h : sok s = true) (h2 : s.length ≤ 100) : pl n w (.str s) = true := by
  rw [show pl n w (.str s) = (sok s && decide (s.length ≤ 100)) by cases n <;> rfl, h, decide_eq_true h2]; rfl
theorem int_pl {n w : Nat} {i : Int} (h : i.natAbs ≤ 1000) : pl n w (.int i) = true := by
  rw [show pl n w (.int i) = decide (i.natAbs ≤ 1000) by cases n <;> rfl]; exact decide_eq_true h
theorem non_pl {n w : Nat} : pl n w .non = true := by cases n <;> rfl
theorem bl_pl {n w : Nat} {b : Bool} : pl n w (.bl b) = true := by cases n <;> rfl
theorem pl_mono : ∀ {n m w v : Nat} {d : D}, n ≤ m → w ≤ v → pl n w d = true → pl m v d = true := by
  intro n
  induction n with
  | zero =>
    intro m w v d _ _ h
    refine pl_any h (fun e => ?_) (fun b e => ?_) (fun i e z => ?_) (fun s e z1 z2 => ?_) (fun xs e => ?_) (fun xs e => ?_) <;> subst e
    · exact non_pl
    · exact bl_pl
    · exact int_pl z
    · exact str_pl z1 z2
    · cases h
    · cases h
  | succ n ih =>
    intro m w v d hm hv h
    refine pl_any h (fun e => ?_) (fun b e => ?_) (fun i e z => ?_) (fun s e z1 z2 => ?_) (fun xs e => ?_) (fun xs e => ?_) <;> subst e
    · exact non_pl
    · exact bl_pl
    · exact int_pl z
    · exact str_pl z1 z2
    · obtain ⟨k, e, h1, h2⟩ := pl_tup h
      cases e
      obtain ⟨m, rfl⟩ : ∃ k, m = k + 1 := ⟨m - 1, by omega⟩
      exact tup_pl (by omega) fun x hx => ih (by omega) hv (h2 x hx)
    · obtain ⟨k, e, h1, h2⟩ := pl_lst h
      cases e
      obtain ⟨m, rfl⟩ : ∃ k, m = k + 1 := ⟨m - 1, by omega⟩
      exact lst_pl (by omega) fun x hx => ih (by omega) hv (h2 x hx)
theorem pl_dok : ∀ {n m w : Nat} {d : D}, n ≤ m → pl n w d = true → dok m d = true := by
  intro n
  induction n with
  | zero =>
    intro m w d _ h
    refine pl_any h (fun e => ?_) (fun b e => ?_) (fun i e z => ?_) (fun s e z1 z2 => ?_) (fun xs e => ?_) (fun xs e => ?_) <;> subst e
    · cases m <;> rfl
    · cases m <;> rfl
    · cases m <;> rfl
    · cases m <;> exact z1
    · cases h
    · cases h
  | succ n ih =>
    intro m w d hm h
    refine pl_any h (fun e => ?_) (fun b e => ?_) (fun i e z => ?_) (fun s e z1 z2 => ?_) (fun xs e => ?_) (fun xs e => ?_) <;> subst e
    · cases m <;> rfl
    · cases m <;> rfl
    · cases m <;> rfl
    · cases m <;> exact z1
    · obtain ⟨k, e, h1, h2⟩ := pl_tup h
      cases e
      obtain ⟨m, rfl⟩ : ∃ k, m = k + 1 := ⟨m - 1, by omega⟩
      show doks m xs = true
      exact doks_all fun x hx => ih (by omega) (h2 x hx)
    · obtain ⟨k, e, h1, h2⟩ := pl_lst h
      cases e
      obtain ⟨m, rfl⟩ : ∃ k, m = k + 1 := ⟨m - 1, by omega⟩
      show doks m xs = true
      exact doks_all fun x hx => ih (by omega) (h2 x hx)

--#NEW
/-! ### the texts of plain values -/
def wt (d : D) : Nat := (toP d).weight
def wts (xs : List D) : Nat := PySem.PyData.weightAll (toPs xs)
theorem wts_nil : wts [] = 0 := rfl
theorem wts_cons {x : D} {xs : List D} : wts (x :: xs) = wt x + 1 + wts xs := rfl
theorem wt_tup {xs : List D} : wt (.tup xs) = wts xs := rfl
theorem wt_str {s : List Nat} : wt (.str s) = s.length := by show (S s).cps.size = _; exact List.size_toArray
theorem wts_app : ∀ {xs ys : List D}, wts (xs ++ ys) = wts xs + wts ys
  | [], ys => by rw [wts_nil, List.nil_append, Nat.zero_add]
  | x :: xs, ys => by rw [List.cons_append, wts_cons, wts_cons, wts_app]; omega
theorem wts_rev : ∀ {xs : List D}, wts xs.reverse = wts xs
  | [] => rfl
  | x :: xs => by rw [List.reverse_cons, wts_app, wts_rev, wts_cons, wts_cons, wts_nil]; omega
local macro_rules | `(tactic| exists $es,*) => do
  let ls ← es.getElems.mapM fun e => `(Lean.Parser.Tactic.simpLemma| $e:term)
  `(tactic| simp -dsimp -implicitDefEqProofs (disch := walk_at "ds") only [bnd_ok, bnd_bnd, Wn_ok, cnd_t, cnd_f, cnd_n, cnd_p, cnd_q, varG_sh, varG_ow, movG_sh, movG_ow, lookG_sh, lookG_ow, ownG_ow, get_0, get_s, set_0, set_s, ev_var, ev_mov0, ev_look, ev_c, ev_bin, ev_un, ev_bor, ev_borR, ev_bor1, ev_nil, ev_cons, ev_n, ev_if, ev_and, ev_or, notR_bl, ev_not, ev_chain, ev_callR, ev_callT, ev_nk, isL_ok, ev_mut, intR_i, ev_part0, ev_part1, ev_slice, seqk_nx, seqk_rt, ev_seq, ev_next, keep_tt, keep_tf, ev_asg, ev_par, ev_gN, ev_gTt, ev_gTk, ev_g0, ev_g1, ev_asgT, ev_expr, ev_ret, ev_retV, ev_sif, ev_for, ev_while, ev_put, ev_fld, fldG_0, fldG_1, end_nx, end_rt, objE_go, ev_iv, items_lst, items_tup, items_str, ev_range, rngG_1, LK_nx, LK_bk, LK_rt, cndO_none, ev_lc, add_i, add_s, add_l, add_t, sub_i, mul_i, fdiv_i, mod_i, pow_i, neg_i, lt_i, le_i, le_s, gt_i, ge_i, eq_i, eq_s, eq_o, ne_i, ne_s, isN_i, isN_l, isN_o, sel_t, sel1_t, in_c, nin_c, ixt_0, ixt_1, ixt_2, ixt_3, ixl_0, ixl_1, ixl_2, sl_f, sl_t, sl_s, len_l, len_f, len_t, len_s, isi_int_i, isi_int_b, isi_bool_b, isi_bool_i, isi_str_s, isi_str_i, isi_str_t, isi_tup_t, isi_tup_i, isi_tup_s, isi_int_s, isi_int_t, isi_o, isi_c_t, abs_i, int_i, max_i, min_i, all_m, tuple_l, str_o, mkTup_e, mkLst_e, app_e, put_l0, put_l1, put_l2, fld_0, fld_1, wipe_0, wipe_s, okS_un, okS_sh, okS_us, noOw_0, noOw_s, back_0, back_s, getD_0, getD_s, listS_s, strG_e, u_mm_are_great, u_mm_are_small, u_mm_is_integer, u_mm_is_number, u_mm_is_moment, u_mt_is_level_1, u_mt_is_level_2, u_mt_is_level_3, u_mm_is_level, u_mt_shared_factor_1, u_mt_shared_factor_2, u_mm_shared_factor, u_mt_is_more_1, u_mm_is_more, u_mt_is_headed_1, u_mt_is_headed_2, u_mt_is_headed_3, u_mm_is_headed, u_mt_overs_in_1, u_mt_overs_in_2, u_mt_overs_in_3, u_mm_overs_in, u_mm_Wish___init__, u_mm_Ratio___str__, u_mt_Ratio___init___1, u_mt_Ratio___init___2, u_mt_Ratio___init___3, u_mm_Ratio___init__, u_mm_more_of, u_mm_text_of_level, u_mm_text_of, u_mm_Wish___str__, u_mt_level_in_1, u_mt_level_in_2, u_mt_level_in_3, u_mm_level_in, u_mm_is_written, u_mt_ratio_in_1, u_mt_ratio_in_2, u_mt_ratio_in_3, u_mm_ratio_in, u_mt_more_in_1, u_mm_more_in, u_mt_form_in_1, u_mt_form_in_2, u_mm_form_in, u_mt_wish_in_1, u_mm_wish_in, u_mm_Wish_read, u_mt__law_bag_1, u_mt__law_bag_2, u_mt__law_bag_3, u_mm__law_bag, u_mm_Wish___eq__, u_mt__law_draw_1, u_mt__law_draw_2, u_mt__law_draw_3, u_mt__law_draw_4, u_mt__law_draw_5, u_mm__law_draw, u_mm__law_one, u_mt__law_level_1, u_mt__law_level_2, u_mm__law_level, u_mm__law_more, u_mt__law_plea_1, u_mt__law_plea_2, u_mt__law_plea_3, u_mt__law_plea_4, u_mm__law_plea, u_mt__law_cords_1, u_mt__law_cords_2, u_mt__law_cords_3, u_mm__law_cords, u_mt__law_letters_1, u_mt__law_letters_2, u_mm__law_letters, u_mt__law_words_1, u_mt__law_words_2, u_mt__law_words_3, u_mm__law_words, u_mt__law_shape_1, u_mt__law_shape_2, u_mt__law_shape_3, u_mm__law_shape, u_mm__law_level_text, u_mt__law_written_1, u_mt__law_written_2, u_mm__law_written, u_mt__law_right_1, u_mt__law_right_2, u_mt__law_right_3, u_mt__law_right_4, u_mt__law_right_5, u_mt__law_right_6, u_mt__law_right_7, u_mt__law_right_8, u_mt__law_right_9, u_mm__law_right, u_mt_law_1, u_mt_law_2, u_mt_law_3, u_mt_law_4, u_mm_law, jsi_non_int, jsi_non_str, jsi_non_tuple, jsi_bl_str, jsi_bl_tuple, jsi_lst_int, jsi_lst_str, jsi_lst_tuple, ltN1, e_isint, e_isint_non, e_isint_bl, e_isint_str, e_isint_tup, e_isint_lst, e_ratio, decide_true, decide_false, if_true, if_false, Bool.not_true, Bool.not_false, List.length_cons, List.length_nil, Int.cast_ofNat_Int, List.nil_append, List.cons_append, List.append_nil, and_self, and_true, true_and, and_false, false_and, List.length_map, Int.reduceToNat, Int.reducePow, Int.reduceSub, Int.reduceAdd, Int.reduceMul, Int.reduceNeg, $ls,*])
--#NEW
/-! ### levels, fractions, heads of wishes -/
@[reducible] def floorW : List Nat := [102, 108, 111, 111, 114]
@[reducible] def lengthW : List Nat := [108, 101, 110, 103, 116, 104]
@[reducible] def hookW : List Nat := [104, 111, 111, 107]
@[reducible] def partW : List Nat := [112, 97, 114, 116]
@[reducible] def lastW : List Nat := [108, 97, 115, 116]
@[reducible] def overW : List Nat := [111, 118, 101, 114]
@[reducible] def andW : List Nat := [97, 110, 100]
@[reducible] def orW : List Nat := [111, 114]
@[reducible] def notW : List Nat := [110, 111, 116]
@[reducible] def ifW : List Nat := [105, 102]
def smB (a b : Nat) : D → Bool
  | .str s => decide (a ≤ s.length) && decide (s.length ≤ b) && lowS s
  | _ => false
def grB (a b : Nat) : D → Bool
  | .str s => decide (a ≤ s.length) && decide (s.length ≤ b) && uppS s
  | _ => false
def momB : D → Bool
  | .int i => decide (0 ≤ i) && decide (i ≤ 6)
  | .str s => decide (s = lastW)
  | _ => false
def levB : D → Bool
  | .tup [.str w] => decide (w = floorW)
  | .tup [.str w, a] => decide (w = lengthW) && smB 1 1 a
  | .tup [.str w, a, m] => momB m && ((decide (w = hookW) && grB 1 1 a) || (decide (w = partW) && smB 2 8 a))
  | _ => false
def morB : D → Bool
  | .int _ => true
  | .tup [.int a, .int b] => decide (1 < b) && decide (gI a b = 1)
  | _ => false
theorem momB_int {i : Int} : momB (.int i) = (decide (0 ≤ i) && decide (i ≤ 6)) := rfl
section
variable {n w : Nat} {d : D}
theorem e_upp_f {s : List Nat} {a b : Int} (hs : s.length ≤ 1000) (h : ¬ (a ≤ s.length ∧ s.length ≤ b)) : F_are_great [.str s, .int a, .int b] = .ok (.bl false, false) := by
  rw [o_are_great]
  by_cases h1 : a ≤ s.length
  · exists bnd_ok
  · exists bnd_ok
theorem e_smA {a b : Nat} (h : pl n w d = true) : F_are_small [d, .int (a : Int), .int (b : Int)] = .ok (.bl (smB a b d), false) := by
  refine pl_any h (fun e => ?_) (fun p e => ?_) (fun i e z => ?_) (fun s e z1 z2 => ?_) (fun xs e => ?_) (fun xs e => ?_) <;> subst e
  · rw [o_are_small]; exists bnd_ok; rfl
  · rw [o_are_small]; exists bnd_ok; rfl
  · rw [o_are_small]; exists bnd_ok; rfl
  · by_cases q : a ≤ s.length ∧ s.length ≤ b
    · rw [e_low (by omega) (by omega) (by omega)]
      show _ = R.ok (D.bl (decide (a ≤ s.length) && decide (s.length ≤ b) && lowS s), false)
      rw [decide_eq_true q.1, decide_eq_true q.2]; rfl
    · rw [e_low_f (by omega) (by omega)]
      show _ = R.ok (D.bl (decide (a ≤ s.length) && decide (s.length ≤ b) && lowS s), false)
      have : (decide (a ≤ s.length) && decide (s.length ≤ b)) = false := by
        rw [← Bool.decide_and]; exact decide_eq_false q
      rw [this]; rfl
  · rw [o_are_small]; exists bnd_ok; rfl
  · rw [o_are_small]; exists bnd_ok; rfl
theorem e_grA {a b : Nat} (h : pl n w d = true) : F_are_great [d, .int (a : Int), .int (b : Int)] = .ok (.bl (grB a b d), false) := by
  refine pl_any h (fun e => ?_) (fun p e => ?_) (fun i e z => ?_) (fun s e z1 z2 => ?_) (fun xs e => ?_) (fun xs e => ?_) <;> subst e
  · rw [o_are_great]; exists bnd_ok; rfl
  · rw [o_are_great]; exists bnd_ok; rfl
  · rw [o_are_great]; exists bnd_ok; rfl
  · by_cases q : a ≤ s.length ∧ s.length ≤ b
    · rw [e_upp (by omega) (by omega) (by omega)]
      show _ = R.ok (D.bl (decide (a ≤ s.length) && decide (s.length ≤ b) && uppS s), false)
      rw [decide_eq_true q.1, decide_eq_true q.2]; rfl
    · rw [e_upp_f (by omega) (by omega)]
      show _ = R.ok (D.bl (decide (a ≤ s.length) && decide (s.length ≤ b) && uppS s), false)
      have : (decide (a ≤ s.length) && decide (s.length ≤ b)) = false := by
        rw [← Bool.decide_and]; exact decide_eq_false q
      rw [this]; rfl
  · rw [o_are_great]; exists bnd_ok; rfl
  · rw [o_are_great]; exists bnd_ok; rfl
theorem e_mom (h : pl n w d = true) : F_is_moment [d, .int 6] = .ok (.bl (momB d), false) := by
  refine pl_any h (fun e => ?_) (fun p e => ?_) (fun i e z => ?_) (fun s e z1 z2 => ?_) (fun xs e => ?_) (fun xs e => ?_) <;> subst e
  · rw [o_is_moment]; exists o_is_number; rfl
  · rw [o_is_moment]; exists o_is_number; rfl
  · rw [o_is_moment]
    by_cases q1 : 0 ≤ i
    · by_cases q2 : i ≤ 6
      · exists o_is_number
        rw [momB_int, decide_eq_true q1, decide_eq_true q2]; rfl
      · exists o_is_number
        rw [momB_int, decide_eq_false q2, Bool.and_false]
    · exists o_is_number
      rw [momB_int, decide_eq_false q1]; rfl
  · rw [o_is_moment]; exists o_is_number; rfl
  · rw [o_is_moment]; exists o_is_number; rfl
  · rw [o_is_moment]; exists o_is_number; rfl
theorem levB1 {s : List Nat} : levB (.tup [.str s]) = decide (s = floorW) := rfl
theorem levB2 {s : List Nat} {a : D} : levB (.tup [.str s, a]) = (decide (s = lengthW) && smB 1 1 a) := rfl
theorem levB3 {s : List Nat} {a m : D} : levB (.tup [.str s, a, m]) = (momB m && ((decide (s = hookW) && grB 1 1 a) || (decide (s = partW) && smB 2 8 a))) := rfl
theorem levB4 {s : List Nat} {a m y : D} {r : List D} : levB (.tup (.str s :: a :: m :: y :: r)) = false := rfl
theorem levB_ns {x0 : D} {r : List D} (h : ∀ s, x0 ≠ .str s) : levB (.tup (x0 :: r)) = false := by
  unfold levB
  split <;> first | rfl | (rename_i e; cases e; exact absurd rfl (h _))
theorem eq_ne {x0 : D} {r : List D} (h : pl n w (.tup (x0 :: r)) = true) (hn : n ≤ 40) : eqD no2 (.tup (x0 :: r)) (.tup []) = .ok (.bl false, false) := by
  show eqG no2 (.tup (x0 :: r)) (.tup []) = _
  have hd := pl_dok (m := 40) hn h
  unfold eqG
  rw [if_pos (by show (dok 40 _ && true) = true; rw [hd]; rfl)]
  rfl
theorem e_lev (h : pl n w d = true) (hn : n ≤ 40) : F_is_level [d] = .ok (.bl (levB d), false) := by
  refine pl_any h (fun e => ?_) (fun p e => ?_) (fun i e z => ?_) (fun s e z1 z2 => ?_) (fun xs e => ?_) (fun xs e => ?_) <;> subst e
  · rw [o_is_level]; exists bnd_ok; rfl
  · rw [o_is_level]; exists bnd_ok; rfl
  · rw [o_is_level]; exists bnd_ok; rfl
  · rw [o_is_level]; exists bnd_ok; rfl
  · obtain ⟨m, rfl, h1, h2⟩ := pl_tup h
    cases xs with
    | nil => rw [o_is_level]; exists bnd_ok; rfl
    | cons x0 r =>
      have p0 := h2 x0 (List.mem_cons_self ..)
      have hne := eq_ne h hn
      have hlt : 0 < (x0 :: r).length := by simp
      refine pl_any p0 (fun e => ?_) (fun p e => ?_) (fun i e z => ?_) (fun s e z1 z2 => ?_) (fun xs e => ?_) (fun xs e => ?_) <;> subst e
      · rw [o_is_level, levB_ns (by simp)]; exists hne
      · rw [o_is_level, levB_ns (by simp)]; exists hne
      · rw [o_is_level, levB_ns (by simp)]; exists hne
      · cases r with
        | nil =>
          rw [o_is_level]
          by_cases q : s = floorW
          · subst q; exists hne; rfl
          · by_cases q2 : s = lengthW
            · subst q2; exists hne; rfl
            · exists hne
              rw [levB1, decide_eq_false q]
        | cons a r =>
          have pa := h2 a (by simp)
          cases r with
          | nil =>
            rw [o_is_level]
            by_cases q : s = floorW
            · subst q; exists hne; rfl
            · by_cases q2 : s = lengthW
              · subst q2
                have es : F_are_small [a, .int 1, .int 1] = .ok (.bl (smB 1 1 a), false) := e_smA (a := 1) (b := 1) pa
                exists hne, es; rfl
              · exists hne
                rw [levB2, decide_eq_false q2]; rfl
          | cons m r =>
            have pm := h2 m (by simp)
            cases r with
            | nil =>
              have em := e_mom pm
              have es : F_are_small [a, .int 2, .int 8] = .ok (.bl (smB 2 8 a), false) := e_smA (a := 2) (b := 8) pa
              have eg : F_are_great [a, .int 1, .int 1] = .ok (.bl (grB 1 1 a), false) := e_grA (a := 1) (b := 1) pa
              rw [o_is_level, levB3]
              by_cases q : s = floorW
              · subst q; exists hne; cases momB m <;> rfl
              · by_cases q2 : s = lengthW
                · subst q2; exists hne; cases momB m <;> rfl
                · cases z : momB m with
                  | false => exists hne, em, z; rfl
                  | true =>
                    by_cases q3 : s = hookW
                    · subst q3
                      exists hne, em, z, eg
                      cases grB 1 1 a <;> rfl
                    · by_cases q4 : s = partW
                      · subst q4
                        exists hne, em, z, es
                        cases smB 2 8 a <;> rfl
                      · exists hne, em, z
                        rw [decide_eq_false q3, decide_eq_false q4]; rfl
            | cons y r =>
              rw [o_is_level, levB4]
              by_cases q : s = floorW
              · subst q; exists hne
                rw [decide_eq_false (by omega)]
              · by_cases q2 : s = lengthW
                · subst q2; exists hne
                · exists hne
      · rw [o_is_level, levB_ns (by simp)]; exists hne
      · rw [o_is_level, levB_ns (by simp)]; exists hne
  · rw [o_is_level]; exists bnd_ok; rfl
/-! fractions -/
theorem morB_ns {x0 : D} {r : List D} (h : ∀ s, x0 ≠ .int s) : morB (.tup (x0 :: r)) = false := by
  unfold morB
  split <;> first | rfl | (rename_i e; cases e; exact absurd rfl (h _)) | (rename_i e; cases e)
theorem morB_ns1 {x0 x1 : D} {r : List D} (h : ∀ s, x1 ≠ .int s) : morB (.tup (x0 :: x1 :: r)) = false := by
  unfold morB
  split <;> first | rfl | (rename_i e; cases e; exact absurd rfl (h _)) | (rename_i e; cases e)
theorem morB2 {a b : Int} : morB (.tup [.int a, .int b]) = (decide (1 < b) && decide (gI a b = 1)) := rfl
theorem morB3 {a b c : D} {r : List D} : morB (.tup (a :: b :: c :: r)) = false := by
  unfold morB
  split <;> first | rfl | (rename_i e; cases e)
theorem e_mor (h : pl n w d = true) (hn : n ≤ 40) : F_is_more [d] = .ok (.bl (morB d), false) := by
  refine pl_any h (fun e => ?_) (fun p e => ?_) (fun i e z => ?_) (fun s e z1 z2 => ?_) (fun xs e => ?_) (fun xs e => ?_) <;> subst e
  · rw [o_is_more]; exists bnd_ok; rfl
  · rw [o_is_more]; exists bnd_ok; rfl
  · rw [o_is_more]; exists bnd_ok; rfl
  · rw [o_is_more]; exists bnd_ok; rfl
  · obtain ⟨m, rfl, h1, h2⟩ := pl_tup h
    cases xs with
    | nil => rw [o_is_more]; exists bnd_ok; rfl
    | cons x0 r =>
      cases r with
      | nil => rw [o_is_more]; exists bnd_ok; cases x0 <;> rfl
      | cons x1 r =>
        cases r with
        | cons x2 r =>
          rw [o_is_more, morB3]; exists bnd_ok
        | nil =>
          refine pl_any (h2 x0 (by simp)) (fun e => ?_) (fun p e => ?_) (fun i e z => ?_) (fun s e z1 z2 => ?_) (fun xs e => ?_) (fun xs e => ?_) <;> subst e
          · rw [o_is_more, morB_ns (by simp)]; exists bnd_ok
          · rw [o_is_more, morB_ns (by simp)]; exists bnd_ok
          · refine pl_any (h2 x1 (by simp)) (fun e => ?_) (fun p e => ?_) (fun j e zj => ?_) (fun s e z1 z2 => ?_) (fun xs e => ?_) (fun xs e => ?_) <;> subst e
            · rw [o_is_more, morB_ns1 (by simp)]; exists bnd_ok
            · rw [o_is_more, morB_ns1 (by simp)]; exists bnd_ok
            · rw [o_is_more, morB2]
              by_cases q : 1 < j
              · have e := e_factor (a := i) (b := j) (by omega) (SL.Bd.small (by decide) (by omega) (by omega))
                exists e
                rw [decide_eq_true q]; rfl
              · exists bnd_ok
                rw [decide_eq_false q]; rfl
            · rw [o_is_more, morB_ns1 (by simp)]; exists bnd_ok
            · rw [o_is_more, morB_ns1 (by simp)]; exists bnd_ok
            · rw [o_is_more, morB_ns1 (by simp)]; exists bnd_ok
          · rw [o_is_more, morB_ns (by simp)]; exists bnd_ok
          · rw [o_is_more, morB_ns (by simp)]; exists bnd_ok
          · rw [o_is_more, morB_ns (by simp)]; exists bnd_ok
  · rw [o_is_more]; exists bnd_ok; rfl
end

--#NEW
/-! ### wishes and their texts -/
inductive Lv where
  | fl
  | le (c : Nat)
  | ho (c : Nat) (m : Option Nat)
  | pa (s : List Nat) (m : Option Nat)
def mmD : Option Nat → D
  | none => .str lastW
  | some k => .int (k : Nat)
def mmT : Option Nat → List Nat
  | none => lastW
  | some k => [48 + k]
def lvD : Lv → D
  | .fl => .tup [.str floorW]
  | .le c => .tup [.str lengthW, .str [c]]
  | .ho c m => .tup [.str hookW, .str [c], mmD m]
  | .pa s m => .tup [.str partW, .str s, mmD m]
def lvT : Lv → List Nat
  | .fl => floorW
  | .le c => [c]
  | .ho c m => c :: 64 :: mmT m
  | .pa s m => s ++ 64 :: mmT m
def mmOk (m : Option Nat) : Prop := ∀ k, m = some k → k ≤ 6
def LvOk : Lv → Prop
  | .fl => True
  | .le c => 97 ≤ c ∧ c ≤ 122
  | .ho c m => (65 ≤ c ∧ c ≤ 90) ∧ mmOk m
  | .pa s m => (2 ≤ s.length ∧ s.length ≤ 8 ∧ ∀ c ∈ s, 97 ≤ c ∧ c ≤ 122) ∧ mmOk m
inductive Mo where
  | it (i : Int)
  | fr (a : Int) (b : Nat)
  deriving DecidableEq
def moD : Mo → D
  | .it i => .int i
  | .fr a b => .tup [.int a, .int (b : Nat)]
def moT : Mo → List Nat
  | .it i => figs i
  | .fr a b => figs a ++ 47 :: figs (b : Nat)
def allMo : List Mo := (List.range 61).map (fun k : Nat => Mo.it ((k : Int) - 20)) ++ [.fr 1 2, .fr (-7) 3, .fr 5 6, .fr (-3) 2]
def MoOk (c : Mo) : Prop := c ∈ allMo
/-- a sign of a word -/
def wdc (c : Nat) : Bool := !(decide (c = 40) || decide (c = 41) || decide (c = 32))
def moFine : Mo → Bool
  | .it i => decide (ratT (figs i) = some (i, 1)) && (figs i).all wdc && !(figs i).isEmpty && decide (i.natAbs ≤ 1000) && decide ((figs i).length ≤ 20)
  | .fr a b => decide (ratT (figs a ++ 47 :: figs (b : Nat)) = some (a, (b : Int))) && (figs a ++ 47 :: figs (b : Nat)).all wdc && decide (a.natAbs ≤ 1000) && decide (1 < b) && decide (b ≤ 1000) && decide (Int.gcd a b = 1) && decide ((figs a).length ≤ 8) && decide ((figs (b : Nat)).length ≤ 8)
theorem mo_fine {c : Mo} (h : MoOk c) : moFine c = true := by
  have : allMo.all moFine = true := by decide +kernel
  exact List.all_eq_true.mp this c h
theorem mAll {m : Option Nat} (h : mmOk m) : (mmT m).all wdc = true ∧ (mmT m).length ≤ 4 := by
  cases m with
  | none => exact ⟨by decide, by decide⟩
  | some k =>
    have := h k rfl
    refine ⟨?_, by show 1 ≤ 4; decide⟩
    show (wdc (48 + k) && true) = true
    unfold wdc
    rw [decide_eq_false (by omega), decide_eq_false (by omega), decide_eq_false (by omega)]; rfl
theorem wdc_of {c : Nat} (h : 45 ≤ c) : wdc c = true := by
  unfold wdc
  rw [decide_eq_false (by omega), decide_eq_false (by omega), decide_eq_false (by omega)]; rfl
theorem lv_word {l : Lv} (h : LvOk l) : (lvT l).all wdc = true ∧ lvT l ≠ [] ∧ (lvT l).length ≤ 13 := by
  cases l with
  | fl => exact ⟨by decide, by decide, by decide⟩
  | le c => exact ⟨by rw [List.all_eq_true]; intro x hx; rw [List.mem_singleton.mp hx]; exact wdc_of (by have := h.1; omega), (fun z => nomatch z), by show 1 ≤ 13; decide⟩
  | ho c m =>
    obtain ⟨h1, h2⟩ := mAll h.2
    refine ⟨?_, (fun z => nomatch z), by show (mmT m).length + 1 + 1 ≤ 13; omega⟩
    show (wdc c && (wdc 64 && (mmT m).all wdc)) = true
    rw [wdc_of (by have := h.1.1; omega), h1]; rfl
  | pa s m =>
    obtain ⟨h1, h2⟩ := mAll h.2
    obtain ⟨h3, h4, h5⟩ := h.1
    refine ⟨?_, ?_, ?_⟩
    · show (s ++ 64 :: mmT m).all wdc = true
      rw [List.all_append, List.all_cons, h1]
      have : s.all wdc = true := List.all_eq_true.mpr fun x hx => wdc_of (by have := (h5 x hx).1; omega)
      rw [this]; rfl
    · intro z
      have : (s ++ 64 :: mmT m).length = 0 := by rw [show s ++ 64 :: mmT m = [] from z]; rfl
      simp at this
    · show (s ++ 64 :: mmT m).length ≤ 13
      rw [List.length_append, List.length_cons]; omega
inductive Pl where
  | ov (a b : Lv) (c : Mo)
  | ng (x : Pl)
  | tw (i : Bool) (x y : Pl)
  | th (x y z : Pl)
def twW : Bool → List Nat
  | true => ifW
  | false => andW
def plD : Pl → D
  | .ov a b c => .tup [.str overW, lvD a, lvD b, moD c]
  | .ng x => .tup [.str notW, plD x]
  | .tw i x y => .tup [.str (twW i), plD x, plD y]
  | .th x y z => .tup [.str orW, plD x, plD y, plD z]
/-- its words -/
def plW : Pl → D
  | .ov a b c => .tup [.str overW, .str (lvT a), .str (lvT b), .str (moT c)]
  | .ng x => .tup [.str notW, plW x]
  | .tw i x y => .tup [.str (twW i), plW x, plW y]
  | .th x y z => .tup [.str orW, plW x, plW y, plW z]
def plT : Pl → List Nat
  | .ov a b c => 40 :: (overW ++ 32 :: (lvT a ++ 32 :: (lvT b ++ 32 :: (moT c ++ [41]))))
  | .ng x => 40 :: (notW ++ 32 :: (plT x ++ [41]))
  | .tw i x y => 40 :: (twW i ++ 32 :: (plT x ++ 32 :: (plT y ++ [41])))
  | .th x y z => 40 :: (orW ++ 32 :: (plT x ++ 32 :: (plT y ++ 32 :: (plT z ++ [41]))))
def PlOk : Pl → Prop
  | .ov a b c => LvOk a ∧ LvOk b ∧ MoOk c
  | .ng x => PlOk x
  | .tw _ x y => PlOk x ∧ PlOk y
  | .th x y z => PlOk x ∧ PlOk y ∧ PlOk z
def dpP : Pl → Nat
  | .ov _ _ _ => 1
  | .ng x => dpP x + 1
  | .tw _ x y => max (dpP x) (dpP y) + 1
  | .th x y z => max (dpP x) (max (dpP y) (dpP z)) + 1
def ctP : Pl → Nat
  | .ov _ _ _ => 1
  | .ng x => ctP x
  | .tw _ x y => ctP x + ctP y
  | .th x y z => ctP x + ctP y + ctP z
/-! words in brackets -/
theorem goN_word : ∀ (w v r : List Nat) (st : List (List D)), w.all wdc = true → goN (w ++ r) (st, v) = goN r (st, v ++ w)
  | [], v, r, st, _ => by rw [List.nil_append, List.append_nil]
  | c :: w, v, r, st, h => by
    rw [List.all_cons, Bool.and_eq_true] at h
    have hc : c ≠ 40 ∧ c ≠ 41 ∧ c ≠ 32 := by
      have := h.1
      unfold wdc at this
      simpa [not_or, and_assoc] using this
    show (match stepN (st, v) c with | some s' => goN (w ++ r) s' | none => none) = _
    rw [stepN_w hc.1 hc.2.1 hc.2.2]
    show goN (w ++ r) (st, v ++ [c]) = _
    rw [goN_word w _ r st h.2, List.append_assoc]; rfl
theorem goN_40 {r : List Nat} {st : List (List D)} : goN (40 :: r) (st, []) = goN r ([] :: st, []) := by
  show (match stepN (st, []) 40 with | some s' => goN r s' | none => none) = _
  rw [stepN_40 rfl]
  have : addW [] st = st := by cases st <;> rfl
  rw [this]
theorem goN_32 {r w : List Nat} {t : List D} {st : List (List D)} (h : w ≠ []) : goN (32 :: r) (t :: st, w) = goN r ((t ++ [.str w]) :: st, []) := by
  show (match stepN (t :: st, w) 32 with | some s' => goN r s' | none => none) = _
  rw [stepN_32 rfl]
  show goN r ((if w = [] then t else t ++ [.str w]) :: st, []) = _
  rw [if_neg h]
theorem goN_320 {r : List Nat} {t : List D} {st : List (List D)} : goN (32 :: r) (t :: st, []) = goN r (t :: st, []) := by
  show (match stepN (t :: st, []) 32 with | some s' => goN r s' | none => none) = _
  rw [stepN_32 rfl]; rfl
theorem goN_41 {r w : List Nat} {t u : List D} {st : List (List D)} (h : w ≠ []) : goN (41 :: r) (t :: u :: st, w) = goN r ((u ++ [.tup (t ++ [.str w])]) :: st, []) := by
  show (match stepN (t :: u :: st, w) 41 with | some s' => goN r s' | none => none) = _
  rw [stepN_41 rfl]
  show (match (match (if w = [] then t else t ++ [.str w]) :: u :: st with | t :: u :: r => some ((u ++ [D.tup t]) :: r, ([] : List Nat)) | _ => none) with | some s' => goN r s' | none => none) = _
  rw [if_neg h]
theorem goN_410 {r : List Nat} {t u : List D} {st : List (List D)} : goN (41 :: r) (t :: u :: st, []) = goN r ((u ++ [.tup t]) :: st, []) := by
  show (match stepN (t :: u :: st, []) 41 with | some s' => goN r s' | none => none) = _
  rw [stepN_41 rfl]; rfl
theorem mo_word {c : Mo} (h : MoOk c) : (moT c).all wdc = true ∧ moT c ≠ [] ∧ (moT c).length ≤ 20 := by
  have f := mo_fine h
  cases c with
  | it i =>
    unfold moFine at f
    simp only [Bool.and_eq_true, Bool.not_eq_true', decide_eq_true_eq] at f
    exact ⟨f.1.1.1.2, (fun z => by have := f.1.1.2; rw [show figs i = [] from z] at this; cases this), f.2⟩
  | fr a b =>
    unfold moFine at f
    simp only [Bool.and_eq_true, decide_eq_true_eq] at f
    refine ⟨f.1.1.1.1.1.1.2, ?_, ?_⟩
    · intro z
      have : (figs a ++ 47 :: figs (b : Nat)).length = 0 := by rw [show figs a ++ 47 :: figs (b : Nat) = [] from z]; rfl
      simp at this
    · show (figs a ++ 47 :: figs (b : Nat)).length ≤ 20
      rw [List.length_append, List.length_cons]; omega
theorem plT_ov {a b : Lv} {c : Mo} {r : List Nat} : plT (.ov a b c) ++ r = 40 :: (overW ++ 32 :: (lvT a ++ 32 :: (lvT b ++ 32 :: (moT c ++ 41 :: r)))) := by unfold plT; simp
theorem plT_ng {x : Pl} {r : List Nat} : plT (.ng x) ++ r = 40 :: (notW ++ 32 :: (plT x ++ 41 :: r)) := by
  conv => lhs; unfold plT
  simp
theorem plT_tw {i : Bool} {x y : Pl} {r : List Nat} : plT (.tw i x y) ++ r = 40 :: (twW i ++ 32 :: (plT x ++ 32 :: (plT y ++ 41 :: r))) := by
  conv => lhs; unfold plT
  simp
theorem plT_th {x y z : Pl} {r : List Nat} : plT (.th x y z) ++ r = 40 :: (orW ++ 32 :: (plT x ++ 32 :: (plT y ++ 32 :: (plT z ++ 41 :: r)))) := by
  conv => lhs; unfold plT
  simp
theorem nest_pl : ∀ (p : Pl) (r : List Nat) (t : List D) (st : List (List D)), PlOk p → goN (plT p ++ r) (t :: st, []) = goN r ((t ++ [plW p]) :: st, [])
  | .ov a b c, r, t, st, h => by
    obtain ⟨a1, a2, _⟩ := lv_word h.1
    obtain ⟨b1, b2, _⟩ := lv_word h.2.1
    obtain ⟨c1, c2, _⟩ := mo_word h.2.2
    unfold plW
    rw [plT_ov, goN_40, goN_word overW _ _ _ (by decide), List.nil_append, goN_32 (by decide), goN_word _ _ _ _ a1, List.nil_append, List.nil_append, goN_32 a2, goN_word _ _ _ _ b1, List.nil_append, goN_32 b2, goN_word _ _ _ _ c1, List.nil_append, goN_41 c2]
    rfl
  | .ng x, r, t, st, h => by
    unfold plW
    rw [plT_ng, goN_40, goN_word notW _ _ _ (by decide), List.nil_append, goN_32 (by decide), nest_pl x _ _ _ h, goN_410]
    rfl
  | .tw i x y, r, t, st, h => by
    unfold plW
    rw [plT_tw, goN_40, goN_word (twW i) _ _ _ (by cases i <;> decide), List.nil_append, goN_32 (by cases i <;> decide), nest_pl x _ _ _ h.1, goN_320, nest_pl y _ _ _ h.2, goN_410]
    rfl
  | .th x y z, r, t, st, h => by
    unfold plW
    rw [plT_th, goN_40, goN_word orW _ _ _ (by decide), List.nil_append, goN_32 (by decide), nest_pl x _ _ _ h.1, goN_320, nest_pl y _ _ _ h.2.1, goN_320, nest_pl z _ _ _ h.2.2, goN_410]
    rfl
theorem plW_tup (p : Pl) : ∃ ds, plW p = .tup ds := by cases p <;> exact ⟨_, rfl⟩
theorem nestD_pl {p : Pl} (h : PlOk p) : nestD (plT p) = plW p := by
  have e := nest_pl p [] [] [] h
  rw [List.append_nil] at e
  unfold nestD
  rw [e]
  obtain ⟨ds, hd⟩ := plW_tup p
  rw [hd]
  rfl

--#NEW
/-! ### the texts, run -/
section
variable {l : Lv} {c : Mo} {p : Pl} {m : Option Nat}
theorem str_k {i : Int} (h : i.natAbs ≤ 1000) : strD no1 [.int i] = .ok (.str (figs i), false) := by
  unfold strD
  dsimp only
  have : i.natAbs.log2 < 1920 := by
    by_cases q : i.natAbs = 0
    · rw [q]; decide
    · exact (Nat.log2_lt q).mpr (Nat.lt_of_le_of_lt h (by decide +kernel))
  rw [if_pos this]; rfl
theorem figs6 : ∀ k : Fin 7, figs ((k.1 : Nat) : Int) = [48 + k.1] := by decide +kernel
theorem figs_mm {k : Nat} (h : k ≤ 6) : figs (k : Nat) = [48 + k] := figs6 ⟨k, by omega⟩
theorem low_sok {s : List Nat} (h : ∀ c ∈ s, 97 ≤ c ∧ c ≤ 122) : sok s = true := List.all_eq_true.mpr fun c hc => decide_eq_true (by have := (h c hc).2; omega)
theorem dok_mm (h : mmOk m) (n : Nat) : dok n (mmD m) = true := by
  cases m with
  | none => cases n <;> rfl
  | some k => cases n <;> rfl
theorem str_mm (h : mmOk m) : strD no1 [mmD m] = .ok (.str (mmT m), false) := by
  cases m with
  | none => rfl
  | some k =>
    have := h k rfl
    show strD no1 [.int (k : Nat)] = _
    rw [str_k (by omega), figs_mm this]; rfl
theorem dok_lv (h : LvOk l) : dok dep (lvD l) = true := by
  cases l with
  | fl => rfl
  | le c =>
    show (true && (doks 39 [.str [c]])) = true
    have : sok [c] = true := low_sok fun x hx => by rw [List.mem_singleton.mp hx]; exact h
    show (true && (sok [c] && true)) = true
    rw [this]; rfl
  | ho c m =>
    have : sok [c] = true := List.all_eq_true.mpr fun x hx => decide_eq_true (by rw [List.mem_singleton.mp hx]; have := h.1.2; omega)
    show (sok hookW && (sok [c] && (dok 39 (mmD m) && true))) = true
    rw [this, dok_mm h.2]; rfl
  | pa s m =>
    show (sok partW && (sok s && (dok 39 (mmD m) && true))) = true
    rw [low_sok h.1.2.2, dok_mm h.2]; rfl
theorem eqg_f {x y : D} {r : Bool} (hx : dok dep x = true) (hy : dok dep y = true) (e : eqv x y = r) : eqG no2 x y = .ok (.bl r, false) := by
  unfold eqG; rw [hx, hy, e]; rfl
theorem dec_hl : decide (hookW = [108, 101, 110, 103, 116, 104]) = false := rfl
theorem dec_pl : decide (partW = [108, 101, 110, 103, 116, 104]) = false := rfl
theorem dec_hf : decide (hookW = [102, 108, 111, 111, 114]) = false := rfl
theorem dec_pf : decide (partW = [102, 108, 111, 111, 114]) = false := rfl
theorem dec_lf : decide (lengthW = [102, 108, 111, 111, 114]) = false := rfl
/-- the law's text of a level -/
theorem e_ltext (h : LvOk l) : F__law_level_text [lvD l] = .ok (.str (lvT l), false) := by
  have hd := dok_lv h
  cases l with
  | fl =>
    have e0 : eqD no2 (.tup [.str floorW]) (.tup [.str floorW]) = .ok (.bl true, false) := eqg_f hd hd rfl
    show F__law_level_text [.tup [.str floorW]] = _
    rw [o__law_level_text]
    exists e0
    rfl
  | le c =>
    have e0 : eqD no2 (.tup [.str lengthW, .str [c]]) (.tup [.str floorW]) = .ok (.bl false, false) := eqg_f hd rfl rfl
    show F__law_level_text [.tup [.str lengthW, .str [c]]] = _
    rw [o__law_level_text]
    exists e0
    rfl
  | ho c m =>
    have e0 : eqD no2 (.tup [.str hookW, .str [c], mmD m]) (.tup [.str floorW]) = .ok (.bl false, false) := eqg_f hd rfl rfl
    show F__law_level_text [.tup [.str hookW, .str [c], mmD m]] = _
    have := (mAll h.2).2
    rw [o__law_level_text]
    exists e0, dec_hl, dec_pl, str_mm h.2
    rfl
  | pa s m =>
    have e0 : eqD no2 (.tup [.str partW, .str s, mmD m]) (.tup [.str floorW]) = .ok (.bl false, false) := eqg_f hd rfl rfl
    show F__law_level_text [.tup [.str partW, .str s, mmD m]] = _
    have := (mAll h.2).2
    have := h.1.2.1
    rw [o__law_level_text]
    exists e0, dec_hl, dec_pl, str_mm h.2
    rw [List.append_assoc]
    rfl
theorem fmtMM (h : mmOk m) : fmtD (mmD m) = .ok (.str (mmT m), false) := by
  cases m with
  | none => rfl
  | some k =>
    have h6 := h k rfl
    have l0 : ((k : Nat) : Int).natAbs.log2 < 1920 := by
      by_cases q : ((k : Nat) : Int).natAbs = 0
      · rw [q]; decide
      · exact (Nat.log2_lt q).mpr (Nat.lt_of_le_of_lt (show ((k : Nat) : Int).natAbs ≤ 1000 by omega) (by decide +kernel))
    show fmtD (.int (k : Nat)) = _
    unfold fmtD
    dsimp only
    rw [if_pos l0, figs_mm h6]; rfl
theorem fcat3 {a b c : List Nat} (h : a.length + b.length + c.length ≤ 100000) : fcat [.str a, .str b, .str c] = .ok (.str (a ++ (b ++ c)), false) := by
  show (if ([a, b, c].map (·.length)).sum ≤ 100000 then str_ [a, b, c].flatten else .no) = _
  rw [if_pos (by simp; omega)]
  show str_ (a ++ (b ++ (c ++ []))) = _
  rw [List.append_nil]; rfl
theorem fmt_s {a : List Nat} (h : a.length ≤ 100000) : fmtD (.str a) = .ok (.str a, false) := if_pos h
theorem fmt_k {i : Int} (h : i.natAbs ≤ 1000) : fmtD (.int i) = .ok (.str (figs i), false) := by
  have : i.natAbs.log2 < 1920 := by
    by_cases q : i.natAbs = 0
    · rw [q]; decide
    · exact (Nat.log2_lt q).mpr (Nat.lt_of_le_of_lt h (by decide +kernel))
  exact if_pos this
theorem e_tol (h : LvOk l) : F_text_of_level [lvD l] = .ok (.str (lvT l), false) := by
  cases l with
  | fl =>
    show F_text_of_level [.tup [.str floorW]] = _
    rw [o_text_of_level]
    exists bnd_ok
    rfl
  | le c =>
    show F_text_of_level [.tup [.str lengthW, .str [c]]] = _
    rw [o_text_of_level]
    exists dec_lf
    rfl
  | ho c m =>
    show F_text_of_level [.tup [.str hookW, .str [c], mmD m]] = _
    have := (mAll h.2).2
    rw [o_text_of_level]
    exists dec_hl, dec_pl, dec_hf, dec_pf, fmtMM h.2, fmt_s (show ([c] : List Nat).length ≤ 100000 by simp), fcat3 (show ([c] : List Nat).length + ([64] : List Nat).length + (mmT m).length ≤ 100000 by simp only [List.length_cons, List.length_nil]; omega)
    rfl
  | pa s m =>
    show F_text_of_level [.tup [.str partW, .str s, mmD m]] = _
    have := (mAll h.2).2
    have := h.1.2.1
    rw [o_text_of_level]
    exists dec_hl, dec_pl, dec_hf, dec_pf, fmtMM h.2, fmt_s (show s.length ≤ 100000 by omega), fcat3 (show s.length + ([64] : List Nat).length + (mmT m).length ≤ 100000 by simp only [List.length_cons, List.length_nil]; omega)
    rfl
end

--#NEW
/-! ### puppets: their data -/
abbrev Sg := Nat × Nat × Wd
@[reducible] def tieD (t : Tie) : D := .tup [.str t.1, .str t.2.1, .int t.2.2]
@[reducible] def sgD (s : Sg) : D := .tup [.str [s.1], .str [s.2.1], .str s.2.2]
@[reducible] def psD (ps : List Wd) : D := .tup (ps.map D.str)
@[reducible] def tsD (ts : List Tie) : D := .tup (ts.map tieD)
@[reducible] def ssD (ss : List Sg) : D := .tup (ss.map sgD)
structure PsOk (ps : List Wd) : Prop where
  nd : ps.Nodup
  l1 : 1 ≤ ps.length
  l2 : ps.length ≤ 6
  wl : ∀ w ∈ ps, 2 ≤ w.length ∧ w.length ≤ 8 ∧ lowS w = true
structure TsOk (ps : List Wd) (ts : List Tie) : Prop where
  gr : Gr ps ts
  irr : ∀ t ∈ ts, t.1 ≠ t.2.1
  uq : ts.Pairwise fun s t => ¬ (s.1 = t.1 ∧ s.2.1 = t.2.1) ∧ ¬ (s.1 = t.2.1 ∧ s.2.1 = t.1)
  bd : ∀ t ∈ ts, t.2.2 ≤ 1000000
  len : ts.length ≤ 10
structure HkOk (hk : List Nat) : Prop where
  l1 : 1 ≤ hk.length
  l2 : hk.length ≤ 4
  up : ∀ c ∈ hk, 65 ≤ c ∧ c ≤ 90
  pw : hk.Pairwise (· < ·)
structure SsOk (ps : List Wd) (hk : List Nat) (ss : List Sg) : Prop where
  l1 : 1 ≤ ss.length
  l2 : ss.length ≤ 6
  nm : ∀ s ∈ ss, 97 ≤ s.1 ∧ s.1 ≤ 122
  hk : ∀ s ∈ ss, s.2.1 ∈ hk
  pt : ∀ s ∈ ss, s.2.2 ∈ ps
  pw : ss.Pairwise fun s t => s.1 < t.1
section
variable {ps : List Wd} {ts : List Tie} {hk : List Nat} {ss : List Sg} {w a b : Wd} {n : Nat} {r : Int}
theorem cut_take {α : Type} (xs : List α) (n : Nat) : cut xs none (some (n : Int)) = xs.take n := by
  unfold cut sIx
  have h : ¬ ((n : Int) < 0) := by omega
  simp only [if_neg h, Int.toNat_natCast, List.drop_zero, Nat.sub_zero]
  rcases Nat.le_total n xs.length with q | q
  · rw [Nat.min_eq_left q]
  · rw [Nat.min_eq_right q, List.take_length, List.take_of_length_le q]
theorem eqv_strs (l : List Wd) (w : Wd) : ((l.map D.str).any fun z => eqv z (.str w)) = decide (w ∈ l) := by
  rw [List.any_map]
  induction l with
  | nil => rfl
  | cons x l ih =>
    rw [List.any_cons, ih]
    show (eqv (.str x) (.str w) || _) = _
    rw [eqv_s]
    by_cases h : x = w
    · subst h; simp
    · simp [h, Ne.symm h]
theorem sok_low (h : lowS w = true) : sok w = true := by
  unfold sok lowS at *
  rw [List.all_eq_true] at *
  intro c hc
  have := h c hc
  rw [Bool.and_eq_true, decide_eq_true_eq, decide_eq_true_eq] at this
  exact decide_eq_true (by omega)
theorem rng_from (lo : Int) (n : Nat) : rng lo n = (List.range n).map fun (i : Nat) => D.int (lo + i) := by
  induction n generalizing lo with
  | zero => rfl
  | succ n ih =>
    rw [rng, ih, List.range_succ_eq_map, List.map_cons, List.map_map]
    congr 1
    · simp
    · refine List.map_congr_left fun i _ => ?_
      show D.int (lo + 1 + i) = D.int (lo + ((i + 1 : Nat) : Int))
      congr 1
      omega
theorem rng_map (n : Nat) : rng 0 n = (List.range n).map fun (i : Nat) => D.int i := by
  rw [rng_from]
  refine List.map_congr_left fun i _ => ?_
  rw [Int.zero_add]
theorem all_true {α : Type} (l : List α) : allD [.lst (l.map fun _ => D.bl true)] = .ok (.bl true, false) := by
  have := all_m (l := l.map fun _ => true)
  rw [List.map_map] at this
  rw [show (l.map fun _ => D.bl true) = l.map (D.bl ∘ fun _ => true) from rfl, this]
  simp
end
structure PuOk (ps : List Wd) (ts : List Tie) (hk : List Nat) (ss : List Sg) : Prop where
  p : PsOk ps
  t : TsOk ps ts
  h : HkOk hk
  s : SsOk ps hk ss
@[reducible] def nmS (ss : List Sg) : List Nat := ss.map fun s => s.1
@[reducible] def shD (ps : List Wd) (ts : List Tie) (hk : List Nat) (ss : List Sg) : D := .tup [psD ps, tsD ts, .str hk, ssD ss]
theorem wn_k {α : Type} {m : R α} {P : α → Prop} (h : Wn (bnd m .ok) P) : Wn m P := by
  have : bnd m .ok = m := by cases m <;> rfl
  rwa [this] at h
/-! ### texts of signs -/
theorem strs_codes (xs : List Nat) : strsOf (xs.map fun c => D.str [c]) = .ok (xs.map fun c => [c]) := by
  have := strs_map (xs.map fun c => [c])
  rwa [List.map_map] at this
theorem flat_codes (xs : List Nat) : joinS [] (xs.map fun c => [c]) = xs := by
  cases xs with
  | nil => rfl
  | cons x xs =>
    show (xs.map fun c => [c]).foldl (fun acc y => acc ++ [] ++ y) [x] = x :: xs
    have : ∀ (xs acc : List Nat), (xs.map fun c => [c]).foldl (fun acc y => acc ++ [] ++ y) acc = acc ++ xs := fun xs => by
      induction xs with
      | nil => intro acc; simp
      | cons x xs ih => intro acc; rw [List.map_cons, List.foldl_cons, ih]; simp
    rw [this]; rfl
theorem sum_len1 (xs : List Nat) : ((xs.map fun c => [c]).map (·.length)).sum = xs.length := by
  induction xs with
  | nil => rfl
  | cons x xs ih => rw [List.map_cons, List.map_cons, List.sum_cons, ih, List.length_cons]; simp; omega
theorem e_join {xs : List Nat} (hl : xs.length ≤ 1000) : joinB (.str []) (.lst (xs.map fun c => D.str [c])) = .ok (.str xs, false) := by
  unfold joinB joinD
  dsimp only
  rw [strs_codes]
  show (if ((xs.map fun c => [c]).map (·.length)).sum + (xs.map fun c => [c]).length * ([] : List Nat).length ≤ 100000 then str_ (joinS [] (xs.map fun c => [c])) else .no) = _
  rw [sum_len1, if_pos (by simp; omega), flat_codes]; rfl
theorem sort_nats {m : List Nat} (h : m.Nodup) : ∃ ys : List Nat, sortS (m.map fun p => [p]) = ys.map (fun c => [c]) ∧ (∀ c, c ∈ ys ↔ c ∈ m) ∧ ys.Pairwise (· < ·) := by
  have pm := sortS_perm (m.map fun p => [p])
  have pw := sortS_pw (m.map fun p => [p])
  have one : ∀ x ∈ sortS (m.map fun p => [p]), ∃ c, x = [c] := fun x hx => by
    obtain ⟨p, _, rfl⟩ := List.mem_map.mp (pm.mem_iff.mp hx)
    exact ⟨_, rfl⟩
  generalize hs : sortS (m.map fun p => [p]) = s at *
  have ex : ∃ ys : List Nat, s = ys.map (fun c => [c]) := by
    clear pm pw hs
    induction s with
    | nil => exact ⟨[], rfl⟩
    | cons x s ih =>
      obtain ⟨c, rfl⟩ := one x (List.mem_cons_self ..)
      obtain ⟨ys, rfl⟩ := ih fun y hy => one y (List.mem_cons_of_mem _ hy)
      exact ⟨c :: ys, rfl⟩
  obtain ⟨ys, rfl⟩ := ex
  have inj : ∀ a b : Nat, ([a] : List Nat) = [b] → a = b := fun a b e => by injection e
  refine ⟨ys, rfl, fun c => ?_, ?_⟩
  · have := pm.mem_iff (a := [c])
    constructor
    · intro hc
      obtain ⟨p, hp, e⟩ := List.mem_map.mp (this.mp (List.mem_map.mpr ⟨c, hc, rfl⟩))
      exact inj _ _ e ▸ hp
    · intro hc
      obtain ⟨c', hc', e'⟩ := List.mem_map.mp (this.mpr (List.mem_map.mpr ⟨c, hc, rfl⟩))
      exact inj _ _ e' ▸ hc'
  · have nd : (ys.map fun c => [c]).Nodup := by
      rw [pm.nodup_iff]
      have := h
      rw [List.nodup_iff_pairwise_ne] at this
      rw [List.nodup_iff_pairwise_ne, List.pairwise_map]
      exact this.imp fun z e => z (inj _ _ e)
    rw [List.nodup_iff_pairwise_ne, List.pairwise_map] at nd
    rw [List.pairwise_map] at pw
    refine (nd.and pw).imp fun {a b} z => ?_
    have h1 : ltN [b] [a] = false := by have := z.2; unfold leS at this; simpa using this
    have h2 : a ≠ b := fun e => z.1 (by rw [e])
    have : ¬ b < a := fun q => by
      unfold ltN at h1
      rw [decide_eq_true q, Bool.true_or] at h1
      cases h1
    omega
theorem e_sortN {m : List Nat} (hm : m.Nodup) (hl : m.length < 64) : ∃ ys : List Nat, sortedD [.lst (m.map fun p => D.str [p])] = .ok (.lst (ys.map fun c => D.str [c]), true) ∧ (∀ c, c ∈ ys ↔ c ∈ m) ∧ ys.Pairwise (· < ·) ∧ ys.length = m.length := by
  obtain ⟨ys, e1, e2, e3⟩ := sort_nats hm
  have ly : ys.length = m.length := by
    have := (sortS_perm (m.map fun p => [p])).length_eq
    rw [e1, List.length_map, List.length_map] at this
    exact this
  refine ⟨ys, ?_, e2, e3, ly⟩
  unfold sortedD
  dsimp only
  rw [strs_codes]
  show (if (m.map fun p => [p]).length < 64 then R.ok (D.lst ((sortS (m.map fun p => [p])).map D.str), true) else .no) = _
  rw [if_pos (by rw [List.length_map]; omega), e1, List.map_map]; rfl

--#NEW
/-! ### wishes drawn, each with its text -/
theorem wt_int {i : Int} (h : i.natAbs ≤ 1000) : wt (.int i) ≤ 10 := by
  show (if i == 0 then 0 else i.natAbs.log2 + 1) ≤ 10
  split
  · decide
  · rename_i h0
    have hz : i.natAbs ≠ 0 := by
      intro z
      apply h0
      rw [Int.natAbs_eq_zero.mp z]; rfl
    have := (Nat.log2_lt hz (k := 10)).mpr (by omega)
    omega
theorem wts_2 {x y : D} : wts [x, y] = wt x + 1 + (wt y + 1) := rfl
theorem wts_3 {x y z : D} : wts [x, y, z] = wt x + 1 + (wt y + 1 + (wt z + 1)) := rfl
theorem wts_4 {x y z u : D} : wts [x, y, z, u] = wt x + 1 + (wt y + 1 + (wt z + 1 + (wt u + 1))) := rfl
theorem pl_2 {n w : Nat} {x y : D} (hw : 2 ≤ w) (h : pl n w x = true) (h2 : pl n w y = true) : pl (n + 1) w (.tup [x, y]) = true := tup_pl hw fun z hz => by
  rcases List.mem_cons.mp hz with rfl | hz
  · exact h
  · rw [List.mem_singleton.mp hz]; exact h2
theorem pl_3 {n w : Nat} {x y z : D} (hw : 3 ≤ w) (h : pl n w x = true) (h2 : pl n w y = true) (h3 : pl n w z = true) : pl (n + 1) w (.tup [x, y, z]) = true := tup_pl hw fun v hv => by
  simp only [List.mem_cons, List.not_mem_nil, or_false] at hv
  rcases hv with rfl | rfl | rfl <;> assumption
theorem pl_4 {n w : Nat} {x y z u : D} (hw : 4 ≤ w) (h : pl n w x = true) (h2 : pl n w y = true) (h3 : pl n w z = true) (h4 : pl n w u = true) : pl (n + 1) w (.tup [x, y, z, u]) = true := tup_pl hw fun v hv => by
  simp only [List.mem_cons, List.not_mem_nil, or_false] at hv
  rcases hv with rfl | rfl | rfl | rfl <;> assumption
theorem mmPl {m : Option Nat} (h : mmOk m) : pl 0 4 (mmD m) = true ∧ wt (mmD m) ≤ 4 := by
  cases m with
  | none => exact ⟨rfl, by decide⟩
  | some k =>
    have := h k rfl
    refine ⟨int_pl (by omega), ?_⟩
    have : k = 0 ∨ k = 1 ∨ k = 2 ∨ k = 3 ∨ k = 4 ∨ k = 5 ∨ k = 6 := by omega
    rcases this with rfl | rfl | rfl | rfl | rfl | rfl | rfl <;> decide
theorem lv_pl {l : Lv} (h : LvOk l) : pl 1 4 (lvD l) = true ∧ wt (lvD l) ≤ 19 := by
  cases l with
  | fl => exact ⟨rfl, by decide⟩
  | le c =>
    refine ⟨pl_2 (by omega) rfl (str_pl (low_sok fun x hx => by rw [List.mem_singleton.mp hx]; exact h) (by simp)), ?_⟩
    show wt (.tup [.str lengthW, .str [c]]) ≤ 19
    rw [wt_tup, wts_2, wt_str, wt_str]; simp
  | ho c m =>
    obtain ⟨p1, p2⟩ := mmPl h.2
    have : sok [c] = true := List.all_eq_true.mpr fun x hx => decide_eq_true (by rw [List.mem_singleton.mp hx]; have := h.1.2; omega)
    refine ⟨pl_3 (by omega) rfl (str_pl this (by simp)) p1, ?_⟩
    show wt (.tup [.str hookW, .str [c], mmD m]) ≤ 19
    rw [wt_tup, wts_3, wt_str, wt_str]; simp; omega
  | pa s m =>
    obtain ⟨p1, p2⟩ := mmPl h.2
    have := h.1.2.1
    refine ⟨pl_3 (by omega) rfl (str_pl (low_sok h.1.2.2) (by omega)) p1, ?_⟩
    show wt (.tup [.str partW, .str s, mmD m]) ≤ 19
    rw [wt_tup, wts_3, wt_str, wt_str]; simp; omega
theorem mo_pl {c : Mo} (h : MoOk c) : pl 1 4 (moD c) = true ∧ wt (moD c) ≤ 22 := by
  have f := mo_fine h
  cases c with
  | it i =>
    unfold moFine at f
    simp only [Bool.and_eq_true, Bool.not_eq_true', decide_eq_true_eq] at f
    exact ⟨int_pl f.1.2, Nat.le_trans (wt_int f.1.2) (by decide)⟩
  | fr a b =>
    unfold moFine at f
    simp only [Bool.and_eq_true, decide_eq_true_eq] at f
    have hb : ((b : Nat) : Int).natAbs ≤ 1000 := by have := f.1.1.1.2; omega
    refine ⟨pl_2 (by omega) (int_pl f.1.1.1.1.1.2) (int_pl hb), ?_⟩
    show wt (.tup [.int a, .int (b : Nat)]) ≤ 22
    have h1 := wt_int f.1.1.1.1.1.2
    have h2 := wt_int hb
    rw [wt_tup, wts_2]; omega
theorem tw_pl {n w : Nat} {i : Bool} : pl n w (.str (twW i)) = true := by cases i <;> exact str_pl (by decide) (by decide)
theorem tw_len {i : Bool} : (twW i).length ≤ 3 := by cases i <;> decide
theorem plD_pl : ∀ {p : Pl}, PlOk p → pl (dpP p + 1) 4 (plD p) = true
  | .ov a b c, h => pl_4 (by omega) (str_pl (by decide) (by decide)) (lv_pl h.1).1 (lv_pl h.2.1).1 (mo_pl h.2.2).1
  | .ng x, h => by
    unfold plD dpP
    exact pl_2 (by omega) (str_pl (by decide) (by decide)) (plD_pl (p := x) h)
  | .tw i x y, h => by
    unfold plD dpP
    exact pl_3 (by omega) tw_pl (pl_mono (by omega) (Nat.le_refl _) (plD_pl (p := x) h.1)) (pl_mono (by omega) (Nat.le_refl _) (plD_pl (p := y) h.2))
  | .th x y z, h => by
    unfold plD dpP
    exact pl_4 (by omega) (str_pl (by decide) (by decide)) (pl_mono (by omega) (Nat.le_refl _) (plD_pl (p := x) h.1)) (pl_mono (by omega) (Nat.le_refl _) (plD_pl (p := y) h.2.1)) (pl_mono (by omega) (Nat.le_refl _) (plD_pl (p := z) h.2.2))
/-- text and weight are at most so long -/
def SzP (m : Nat) (p : Pl) : Prop := (plT p).length ≤ m ∧ wt (plD p) ≤ m
theorem sz_ov {a b : Lv} {c : Mo} (h : PlOk (.ov a b c)) : SzP 72 (.ov a b c) := by
  have a3 := (lv_word h.1).2.2
  have b3 := (lv_word h.2.1).2.2
  have c3 := (mo_word h.2.2).2.2
  have a4 := (lv_pl h.1).2
  have b4 := (lv_pl h.2.1).2
  have c4 := (mo_pl h.2.2).2
  constructor
  · unfold plT
    simp only [List.length_cons, List.length_append, List.length_nil]
    omega
  · unfold plD
    rw [wt_tup, wts_4, wt_str]
    simp; omega
theorem sz_ng {x : Pl} {m : Nat} (h : SzP m x) : SzP (3 * m + 10) (.ng x) := by
  obtain ⟨h1, h2⟩ := h
  constructor
  · unfold plT
    simp only [List.length_cons, List.length_append, List.length_nil]
    omega
  · unfold plD
    rw [wt_tup, wts_2, wt_str]
    simp; omega
theorem sz_tw {i : Bool} {x y : Pl} {m : Nat} (h : SzP m x) (g : SzP m y) : SzP (3 * m + 10) (.tw i x y) := by
  obtain ⟨h1, h2⟩ := h
  obtain ⟨g1, g2⟩ := g
  have := tw_len (i := i)
  constructor
  · unfold plT
    simp only [List.length_cons, List.length_append, List.length_nil]
    omega
  · unfold plD
    rw [wt_tup, wts_3, wt_str]
    omega
theorem sz_th {x y z : Pl} {m : Nat} (h : SzP m x) (g : SzP m y) (k : SzP m z) : SzP (3 * m + 10) (.th x y z) := by
  obtain ⟨h1, h2⟩ := h
  obtain ⟨g1, g2⟩ := g
  obtain ⟨k1, k2⟩ := k
  constructor
  · unfold plT
    simp only [List.length_cons, List.length_append, List.length_nil]
    omega
  · unfold plD
    rw [wt_tup, wts_4, wt_str]
    simp; omega

--#NEW
/-! ### words of a wish: plain, and read again -/
section
variable {l : Lv} {c : Mo} {p : Pl} {m : Option Nat} {n w : Nat}
theorem mo_sok (h : MoOk c) : sok (moT c) = true := by
  have : allMo.all (fun c => sok (moT c)) = true := by decide +kernel
  exact List.all_eq_true.mp this c h
theorem mmSok (h : mmOk m) : sok (mmT m) = true := by
  cases m with
  | none => decide
  | some k =>
    have := h k rfl
    exact List.all_eq_true.mpr fun x hx => decide_eq_true (by rw [List.mem_singleton.mp hx]; omega)
theorem sok_cons {x : Nat} {s : List Nat} (h : x < 1114112) (g : sok s = true) : sok (x :: s) = true := by
  show (decide (x < 1114112) && sok s) = true
  rw [decide_eq_true h, g]; rfl
theorem sok_app {s t : List Nat} (h : sok s = true) (g : sok t = true) : sok (s ++ t) = true := by
  show (s ++ t).all _ = true
  rw [List.all_append]
  show (sok s && sok t) = true
  rw [h, g]; rfl
theorem lv_sok (h : LvOk l) : sok (lvT l) = true := by
  cases l with
  | fl => decide
  | le c => exact sok_cons (by have := h.2; omega) rfl
  | ho c m => exact sok_cons (by have := h.1.2; omega) (sok_cons (by decide) (mmSok h.2))
  | pa s m => exact sok_app (low_sok h.1.2.2) (sok_cons (by decide) (mmSok h.2))
theorem plW_pl : ∀ {p : Pl}, PlOk p → pl (dpP p) 4 (plW p) = true
  | .ov a b c, h => pl_4 (n := 0) (by omega) (str_pl (by decide) (by decide)) (str_pl (lv_sok h.1) (by have := (lv_word h.1).2.2; omega)) (str_pl (lv_sok h.2.1) (by have := (lv_word h.2.1).2.2; omega)) (str_pl (mo_sok h.2.2) (by have := (mo_word h.2.2).2.2; omega))
  | .ng x, h => by
    unfold plW dpP
    exact pl_2 (by omega) (str_pl (by decide) (by decide)) (plW_pl (p := x) h)
  | .tw i x y, h => by
    unfold plW dpP
    exact pl_3 (by omega) tw_pl (pl_mono (by omega) (Nat.le_refl _) (plW_pl (p := x) h.1)) (pl_mono (by omega) (Nat.le_refl _) (plW_pl (p := y) h.2))
  | .th x y z, h => by
    unfold plW dpP
    exact pl_4 (by omega) (str_pl (by decide) (by decide)) (pl_mono (by omega) (Nat.le_refl _) (plW_pl (p := x) h.1)) (pl_mono (by omega) (Nat.le_refl _) (plW_pl (p := y) h.2.1)) (pl_mono (by omega) (Nat.le_refl _) (plW_pl (p := z) h.2.2))
/-! levels read -/
theorem bef_hd {x : Nat} {s t : List Nat} (h : x ∉ s) : bef x (s ++ x :: t) = s ∧ beh x (s ++ x :: t) = t := by
  induction s with
  | nil =>
    constructor
    · show bef x (x :: t) = []
      unfold bef; rw [if_pos rfl]
    · show beh x (x :: t) = t
      unfold beh; rw [if_pos rfl]
  | cons y s ih =>
    have hy : y ≠ x := fun e => h (e ▸ List.mem_cons_self ..)
    obtain ⟨i1, i2⟩ := ih fun e => h (List.mem_cons_of_mem _ e)
    constructor
    · show bef x (y :: (s ++ x :: t)) = y :: s
      unfold bef; rw [if_neg hy, i1]
    · show beh x (y :: (s ++ x :: t)) = t
      unfold beh; rw [if_neg hy, i2]
theorem figs7 : listSD [.str [48, 49, 50, 51, 52, 53, 54]] = .ok (.lst [.str [48], .str [49], .str [50], .str [51], .str [52], .str [53], .str [54]], true) := rfl
theorem mmIn {k : Nat} (h : k ≤ 6) : inD (.str [48 + k]) (.lst [.str [48], .str [49], .str [50], .str [51], .str [52], .str [53], .str [54]]) = .ok (.bl true, false) := by
  have : k = 0 ∨ k = 1 ∨ k = 2 ∨ k = 3 ∨ k = 4 ∨ k = 5 ∨ k = 6 := by omega
  rcases this with rfl | rfl | rfl | rfl | rfl | rfl | rfl <;> (rw [in_l (by decide)]; rfl)
theorem mmInt {k : Nat} (h : k ≤ 6) : intSD [.str [48 + k]] = .ok (.int (k : Nat), false) := by
  have : k = 0 ∨ k = 1 ∨ k = 2 ∨ k = 3 ∨ k = 4 ∨ k = 5 ∨ k = 6 := by omega
  rcases this with rfl | rfl | rfl | rfl | rfl | rfl | rfl <;> rfl
theorem mmNone : decide (mmT none = [108, 97, 115, 116]) = true := rfl
theorem mmSome {k : Nat} : decide (mmT (some k) = [108, 97, 115, 116]) = false := decide_eq_false fun z => by
  have : (mmT (some k)).length = 4 := by rw [z]; rfl
  exact absurd (show 1 = 4 from this) (by decide)
theorem e_lin (h : LvOk l) : F_level_in [.str (lvT l)] = .ok (lvD l, false) := by
  cases l with
  | fl =>
    show F_level_in [.str floorW] = _
    rw [o_level_in]
    exists bnd_ok
    rfl
  | le c =>
    have hc : c ≤ 122 := h.2
    have h1 : 97 ≤ c := h.1
    have e1 : decide (([c] : List Nat) = floorW) = false := decide_eq_false (fun z => nomatch z)
    have e2 : partD (.str [c]) (.str [64]) = .ok (.kt [.str [c], .str [], .str []], false) := part_n (by simp) (by intro z; have := List.mem_singleton.mp z; omega)
    show F_level_in [.str [c]] = _
    rw [o_level_in]
    exists e1, e2
    rfl
  | ho c m =>
    have hb := bef_hd (x := 64) (s := [c]) (t := mmT m) (by intro z; have := List.mem_singleton.mp z; have := h.1.1; omega)
    have hl := (mAll h.2).2
    have e1 : decide (c :: 64 :: mmT m = floorW) = false := decide_eq_false (fun z => by injection z with _ z; injection z with z; cases z)
    have e2 : partD (.str (c :: 64 :: mmT m)) (.str [64]) = .ok (.kt [.str [c], .str [64], .str (mmT m)], false) := by
      rw [part_y (by simp only [List.length_cons]; omega) (by simp)]
      rw [show c :: 64 :: mmT m = [c] ++ 64 :: mmT m from rfl, hb.1, hb.2]
    have e3 := e_upp1 h.1.1 h.1.2
    have e4 : decide (([64] : List Nat) = []) = false := rfl
    show F_level_in [.str (c :: 64 :: mmT m)] = _
    rw [o_level_in]
    cases m with
    | none =>
      exists e1, e2, e4, mmNone, e3
      rfl
    | some k =>
      have hk := h.2 k rfl
      have e5 : inD (.str (mmT (some k))) (.lst [.str [48], .str [49], .str [50], .str [51], .str [52], .str [53], .str [54]]) = .ok (.bl true, false) := mmIn hk
      have e7 : inD (.str (mmT (some k))) (.lst (([48, 49, 50, 51, 52, 53, 54] : List Nat).map fun c => .str [c])) = .ok (.bl true, false) := mmIn hk
      have e6 : intSD [.str (mmT (some k))] = .ok (.int (k : Nat), false) := mmInt hk
      exists e1, e2, e4, mmSome, figs7, e5, e7, e6, e3
      rfl
  | pa s m =>
    obtain ⟨h1, h2, h3⟩ := h.1
    have hb := bef_hd (x := 64) (s := s) (t := mmT m) (by intro z; have := (h3 64 z).1; omega)
    have hl := (mAll h.2).2
    have e1 : decide (s ++ 64 :: mmT m = floorW) = false := decide_eq_false (fun z => by
      have : 64 ∈ floorW := by rw [← z]; simp
      exact absurd this (by decide))
    have e2 : partD (.str (s ++ 64 :: mmT m)) (.str [64]) = .ok (.kt [.str s, .str [64], .str (mmT m)], false) := by
      rw [part_y (by rw [List.length_append, List.length_cons]; omega) (by simp), hb.1, hb.2]
    have e3 := e_upp_f (s := s) (a := 1) (b := 1) (by omega) (by omega)
    have e4 : decide (([64] : List Nat) = []) = false := rfl
    show F_level_in [.str (s ++ 64 :: mmT m)] = _
    rw [o_level_in]
    cases m with
    | none =>
      exists e1, e2, e4, mmNone, e3
      rfl
    | some k =>
      have hk := h.2 k rfl
      have e5 : inD (.str (mmT (some k))) (.lst [.str [48], .str [49], .str [50], .str [51], .str [52], .str [53], .str [54]]) = .ok (.bl true, false) := mmIn hk
      have e7 : inD (.str (mmT (some k))) (.lst (([48, 49, 50, 51, 52, 53, 54] : List Nat).map fun c => .str [c])) = .ok (.bl true, false) := mmIn hk
      have e6 : intSD [.str (mmT (some k))] = .ok (.int (k : Nat), false) := mmInt hk
      exists e1, e2, e4, mmSome, figs7, e5, e7, e6, e3
      rfl
/-! fractions read -/
theorem gI_1 {a : Int} : gI a 1 = 1 := by
  have h := SL.gI_dvd_right a 1
  have g := SL.gI_pos (n := a) (d := 1) (by omega)
  have := Int.le_of_dvd (by omega) h
  omega
theorem rat_it {i : Int} : rat i 1 = .ins 0 [.int i, .int 1] := by
  unfold rat nm dn
  rw [gI_1, Int.ediv_one, Int.ediv_one]
theorem rat_fr {a b : Int} (h : gI a b = 1) : rat a b = .ins 0 [.int a, .int b] := by
  unfold rat nm dn
  rw [h, Int.ediv_one, Int.ediv_one]
theorem mo_fr {a : Int} {b : Nat} (h : MoOk (.fr a b)) : ratT (moT (.fr a b)) = some (a, (b : Int)) ∧ 1 < b ∧ gI a (b : Int) = 1 ∧ a.natAbs ≤ 1000 ∧ b ≤ 1000 ∧ (figs a).length ≤ 8 ∧ (figs (b : Nat)).length ≤ 8 := by
  have f := mo_fine h
  unfold moFine at f
  simp only [Bool.and_eq_true, decide_eq_true_eq] at f
  exact ⟨f.1.1.1.1.1.1.1, f.1.1.1.1.2, congrArg _ f.1.1.2, f.1.1.1.1.1.2, f.1.1.1.2, f.1.2, f.2⟩
theorem mo_it {i : Int} (h : MoOk (.it i)) : ratT (moT (.it i)) = some (i, 1) ∧ i.natAbs ≤ 1000 ∧ (figs i).length ≤ 20 := by
  have f := mo_fine h
  unfold moFine at f
  simp only [Bool.and_eq_true, Bool.not_eq_true', decide_eq_true_eq] at f
  exact ⟨f.1.1.1.1, f.1.2, f.2⟩
theorem e_min (h : MoOk c) : F_more_in [.str (moT c)] = .ok (moD c, false) := by
  have hl := (mo_word h).2.2
  have e := e_ratio_in (t := moT c) (by omega)
  rw [o_more_in]
  cases c with
  | it i =>
    rw [(mo_it h).1] at e
    replace e : F_ratio_in [.str (moT (.it i))] = .ok (.ins 0 [.int i, .int 1], false) := by rw [e]; exact congrArg (fun z => R.ok (z, false)) rat_it
    exists e
    rfl
  | fr a b =>
    obtain ⟨h1, h2, h3, _⟩ := mo_fr h
    rw [h1] at e
    replace e : F_ratio_in [.str (moT (.fr a b))] = .ok (.ins 0 [.int a, .int (b : Nat)], false) := by rw [e]; exact congrArg (fun z => R.ok (z, false)) (rat_fr h3)
    have h4 : ¬ ((b : Nat) : Int) = 1 := by omega
    exists e
    rfl
/-! forms read -/
theorem cut_t1 {α : Type} {x : α} {xs : List α} : cut (x :: xs) (some 1) none = xs := by
  have h1 : sIx (x :: xs).length 0 (some 1) = 1 := by
    unfold sIx; simp
  have h2 : sIx (x :: xs).length (x :: xs).length none = (x :: xs).length := rfl
  unfold cut
  rw [h1, h2]
  show List.take ((x :: xs).length - 1) xs = xs
  simp
theorem cut_13 {α : Type} {x a b c : α} : cut [x, a, b, c] (some 1) (some 3) = [a, b] := rfl
theorem cut_3 {α : Type} {x a b c : α} : cut [x, a, b, c] (some 3) none = [c] := rfl
theorem cut_01 {α : Type} {x : α} {xs : List α} : cut (x :: xs) none (some 1) = [x] := by
  unfold cut sIx
  dsimp only
  rw [List.drop_zero, Nat.sub_zero]
  show (x :: xs).take (min 1 (xs.length + 1)) = _
  rw [Nat.min_eq_left (by omega)]; rfl
end
section
variable {p : Pl} {Frec : Fn} {room : Int} {k : Nat}
theorem fi_lc {y : D} {qs : List Pl} (hl : qs.length ≤ 1000) (hrec : ∀ q ∈ qs, Frec [plW q, .int (room - 1)] = .ok (plD q, false)) : lcS (gN 4) none (eN Frec [eVar 4, eBin (subD no2) (eVar 1) (eC (.int 1))]) [4] (qs.map plW) [.sh y, .sh (.int room), .un, .un, .un] = .ok ((.lst (qs.map plD), true), [.sh y, .sh (.int room), .un, .un, .un]) := by
  have := lc_eq (α := Pl) (mk := plW) (xs := qs) (g := gN 4) (c := none) (e := eN Frec [eVar 4, eBin (subD no2) (eVar 1) (eC (.int 1))]) (vs := [4]) (ρ := [.sh y, .sh (.int room), .un, .un, .un]) (fun x => some (plD x)) rfl hl (fun x hx => ⟨[.sh y, .sh (.int room), .un, .un, .sh (plW x)], (by
    have e := hrec x hx
    exists e), rfl, rfl⟩)
  rw [this, List.filterMap_eq_map']
theorem fi_step (hr : 0 < room) (h : PlOk p) (hd : dpP p ≤ k + 1) (hk : k ≤ 30) (hrec : ∀ q, PlOk q → dpP q ≤ k → Frec [plW q, .int (room - 1)] = .ok (plD q, false)) : (bnd ((mm_form_in Frec) [.sh (plW p), .sh (.int room), .un, .un, .un]) fun r => endOf r.1) = .ok (plD p, false) := by
  have hp := plW_pl h
  have r0 : ¬ room = 0 := by omega
  have sub : ∀ qs : List Pl, (∀ q ∈ qs, PlOk q ∧ dpP q ≤ k) → ∀ q ∈ qs, Frec [plW q, .int (room - 1)] = .ok (plD q, false) := fun qs hq q hm => hrec q (hq q hm).1 (hq q hm).2
  cases p with
  | ov a b c =>
    have hne : eqD no2 (.tup [.str overW, .str (lvT a), .str (lvT b), .str (moT c)]) (.tup []) = .ok (.bl false, false) := eq_ne (n := 1) (w := 4) hp (by omega)
    have ea := e_lin h.1
    have eb := e_lin h.2.1
    have ec := e_min h.2.2
    show (bnd ((mm_form_in Frec) [.sh (.tup [.str overW, .str (lvT a), .str (lvT b), .str (moT c)]), .sh (.int room), .un, .un, .un]) fun r => endOf r.1) = _
    exists hne, cut_13, cut_3, ea, eb, ec, lcS_lit, lcGo_s, lcGo_0, for_s, for_0
    rfl
  | ng x =>
    have hne : eqD no2 (.tup [.str notW, plW x]) (.tup []) = .ok (.bl false, false) := eq_ne (n := dpP (.ng x)) (w := 4) hp (by omega)
    have el := fi_lc (Frec := Frec) (room := room) (y := .tup [.str notW, plW x]) (qs := [x]) (by simp) (sub [x] fun q hq => by rw [List.mem_singleton.mp hq]; exact ⟨h, by unfold dpP at hd; omega⟩)
    replace el : lcS (gN 4) none (eN Frec [eVar 4, eBin (subD no2) (eVar 1) (eC (.int 1))]) [4] [plW x] [.sh (.tup [.str notW, plW x]), .sh (.int room), .un, .un, .un] = .ok ((.lst [plD x], true), [.sh (.tup [.str notW, plW x]), .sh (.int room), .un, .un, .un]) := el
    have nw : decide (notW = overW) = false := rfl
    show (bnd ((mm_form_in Frec) [.sh (.tup [.str notW, plW x]), .sh (.int room), .un, .un, .un]) fun r => endOf r.1) = _
    exists hne, cut_t1, cut_01, nw, el
    rfl
  | tw i x y =>
    have hne : eqD no2 (.tup [.str (twW i), plW x, plW y]) (.tup []) = .ok (.bl false, false) := eq_ne (n := dpP (.tw i x y)) (w := 4) hp (by omega)
    have el := fi_lc (Frec := Frec) (room := room) (y := .tup [.str (twW i), plW x, plW y]) (qs := [x, y]) (by simp) (sub [x, y] fun q hq => by
      have h' : PlOk x ∧ PlOk y := h
      unfold dpP at hd
      simp only [List.mem_cons, List.not_mem_nil, or_false] at hq
      rcases hq with rfl | rfl
      · exact ⟨h'.1, by omega⟩
      · exact ⟨h'.2, by omega⟩)
    replace el : lcS (gN 4) none (eN Frec [eVar 4, eBin (subD no2) (eVar 1) (eC (.int 1))]) [4] [plW x, plW y] [.sh (.tup [.str (twW i), plW x, plW y]), .sh (.int room), .un, .un, .un] = .ok ((.lst [plD x, plD y], true), [.sh (.tup [.str (twW i), plW x, plW y]), .sh (.int room), .un, .un, .un]) := el
    have nw : decide (twW i = overW) = false := by cases i <;> rfl
    show (bnd ((mm_form_in Frec) [.sh (.tup [.str (twW i), plW x, plW y]), .sh (.int room), .un, .un, .un]) fun r => endOf r.1) = _
    exists hne, cut_t1, cut_01, nw, el
    rfl
  | th x y z =>
    have hne : eqD no2 (.tup [.str orW, plW x, plW y, plW z]) (.tup []) = .ok (.bl false, false) := eq_ne (n := dpP (.th x y z)) (w := 4) hp (by omega)
    have el := fi_lc (Frec := Frec) (room := room) (y := .tup [.str orW, plW x, plW y, plW z]) (qs := [x, y, z]) (by simp) (sub [x, y, z] fun q hq => by
      have h' : PlOk x ∧ PlOk y ∧ PlOk z := h
      unfold dpP at hd
      simp only [List.mem_cons, List.not_mem_nil, or_false] at hq
      rcases hq with rfl | rfl | rfl
      · exact ⟨h'.1, by omega⟩
      · exact ⟨h'.2.1, by omega⟩
      · exact ⟨h'.2.2, by omega⟩)
    replace el : lcS (gN 4) none (eN Frec [eVar 4, eBin (subD no2) (eVar 1) (eC (.int 1))]) [4] [plW x, plW y, plW z] [.sh (.tup [.str orW, plW x, plW y, plW z]), .sh (.int room), .un, .un, .un] = .ok ((.lst [plD x, plD y, plD z], true), [.sh (.tup [.str orW, plW x, plW y, plW z]), .sh (.int room), .un, .un, .un]) := el
    have nw : decide (orW = overW) = false := rfl
    show (bnd ((mm_form_in Frec) [.sh (.tup [.str orW, plW x, plW y, plW z]), .sh (.int room), .un, .un, .un]) fun r => endOf r.1) = _
    exists hne, cut_t1, cut_01, nw, el
    rfl
theorem dp_pos : ∀ {p : Pl}, 1 ≤ dpP p
  | .ov _ _ _ => Nat.le_refl _
  | .ng _ => by unfold dpP; omega
  | .tw _ _ _ => by unfold dpP; omega
  | .th _ _ _ => by unfold dpP; omega
theorem e_fi1 (h : PlOk p) (hd : dpP p ≤ 1) : F_form_in_r1 [plW p, .int 2] = .ok (plD p, false) := by
  rw [o_form_in_r1]
  exact fi_step (k := 0) (by decide) h hd (by decide) fun q _ hq => by have := dp_pos (p := q); omega
theorem e_fi2 (h : PlOk p) (hd : dpP p ≤ 2) : F_form_in_r2 [plW p, .int 3] = .ok (plD p, false) := by
  rw [o_form_in_r2]
  exact fi_step (k := 1) (by decide) h hd (by decide) fun q hq dq => e_fi1 hq dq
theorem e_fi3 (h : PlOk p) (hd : dpP p ≤ 3) : F_form_in_r3 [plW p, .int 4] = .ok (plD p, false) := by
  rw [o_form_in_r3]
  exact fi_step (k := 2) (by decide) h hd (by decide) fun q hq dq => e_fi2 hq dq
end

--#NEW
/-! ### the text of a wish -/
theorem joinB_e {a : List Nat} {ss : List (List Nat)} (h : (ss.map (·.length)).sum + ss.length * a.length ≤ 100000) : joinB (.str a) (.lst (ss.map D.str)) = .ok (.str (joinS a ss), false) := by
  unfold joinB joinD
  dsimp only
  rw [strs_map]
  show (if (ss.map (·.length)).sum + ss.length * a.length ≤ 100000 then str_ (joinS a ss) else .no) = _
  rw [if_pos h]; rfl
theorem join2 {a b : List Nat} (h : a.length + b.length ≤ 90000) : joinB (.str [32]) (.lst [.str a, .str b]) = .ok (.str (a ++ 32 :: b), false) := by
  rw [show ([.str a, .str b] : List D) = [a, b].map D.str from rfl, joinB_e (by simp; omega)]
  show R.ok (D.str (a ++ [32] ++ b), false) = _
  rw [List.append_assoc]; rfl
theorem join3 {a b c : List Nat} (h : a.length + b.length + c.length ≤ 90000) : joinB (.str [32]) (.lst [.str a, .str b, .str c]) = .ok (.str (a ++ 32 :: (b ++ 32 :: c)), false) := by
  rw [show ([.str a, .str b, .str c] : List D) = [a, b, c].map D.str from rfl, joinB_e (by simp; omega)]
  show R.ok (D.str (a ++ [32] ++ b ++ [32] ++ c), false) = _
  simp
theorem join4 {a b c d : List Nat} (h : a.length + b.length + c.length + d.length ≤ 90000) : joinB (.str [32]) (.lst [.str a, .str b, .str c, .str d]) = .ok (.str (a ++ 32 :: (b ++ 32 :: (c ++ 32 :: d))), false) := by
  rw [show ([.str a, .str b, .str c, .str d] : List D) = [a, b, c, d].map D.str from rfl, joinB_e (by simp; omega)]
  show R.ok (D.str (a ++ [32] ++ b ++ [32] ++ c ++ [32] ++ d), false) = _
  simp
theorem plE_ov {a b : Lv} {c : Mo} : plT (.ov a b c) = 40 :: (overW ++ 32 :: (lvT a ++ 32 :: (lvT b ++ 32 :: (moT c ++ [41])))) := rfl
theorem plE_ng {x : Pl} : plT (.ng x) = 40 :: (notW ++ 32 :: (plT x ++ [41])) := rfl
theorem plE_tw {i : Bool} {x y : Pl} : plT (.tw i x y) = 40 :: (twW i ++ 32 :: (plT x ++ 32 :: (plT y ++ [41]))) := rfl
theorem plE_th {x y z : Pl} : plT (.th x y z) = 40 :: (orW ++ 32 :: (plT x ++ 32 :: (plT y ++ 32 :: (plT z ++ [41])))) := rfl
section
variable {c : Mo} {p : Pl} {Frec : Fn} {k : Nat}
theorem bd_60 {b : Nat} (h : b ≤ 1000) : Bd 8000 (b : Int) := by
  show ((b : Nat) : Int).natAbs < 2 ^ 8000
  rw [Int.natAbs_natCast]
  exact Nat.lt_of_le_of_lt h (by decide +kernel)
theorem e_mof (h : MoOk c) : ∃ a b : Int, F_more_of [moD c] = .ok (.ins 0 [.int a, .int b], false) ∧ F_Ratio___str__ [.ins 0 [.int a, .int b]] = .ok (.str (moT c), false) := by
  cases c with
  | it i =>
    obtain ⟨_, h2, h3⟩ := mo_it h
    refine ⟨i, 1, ?_, ?_⟩
    · have e : mkObj 0 F_Ratio___init__ [.int i, .int 1] = .ok (rat i 1, false) := e_ratio (by decide) (bd_60 (b := 1) (by decide))
      rw [rat_it] at e
      show F_more_of [.int i] = _
      rw [o_more_of]
      exists e
    · rw [o_Ratio___str__]
      exists fmt_k h2
      rfl
  | fr a b =>
    obtain ⟨_, h2, h3, h4, h5, h6, h7⟩ := mo_fr h
    refine ⟨a, (b : Nat), ?_, ?_⟩
    · have e : mkObj 0 F_Ratio___init__ [.int a, .int (b : Nat)] = .ok (rat a (b : Nat), false) := e_ratio (by omega) (bd_60 h5)
      rw [rat_fr h3] at e
      show F_more_of [.tup [.int a, .int (b : Nat)]] = _
      rw [o_more_of]
      exists e
    · have h8 : ¬ ((b : Nat) : Int) = 1 := by omega
      rw [o_Ratio___str__]
      exists fmt_k h4, fmt_k (i := (b : Nat)) (by rw [Int.natAbs_natCast]; exact h5), fcat3 (a := figs a) (b := [47]) (c := figs (b : Nat)) (by simp only [List.length_cons, List.length_nil]; omega)
      rfl
theorem tx_lc {y : D} {qs : List Pl} (hl : qs.length ≤ 1000) (hrec : ∀ q ∈ qs, Frec [plD q] = .ok (.str (plT q), false)) : lcS (gN 2) none (eN Frec [eVar 2]) [2] (qs.map plD) [.sh y, .un, .un] = .ok ((.lst (qs.map fun q => .str (plT q)), true), [.sh y, .un, .un]) := by
  have := lc_eq (α := Pl) (mk := plD) (xs := qs) (g := gN 2) (c := none) (e := eN Frec [eVar 2]) (vs := [2]) (ρ := [.sh y, .un, .un]) (fun x => some (.str (plT x))) rfl hl (fun x hx => ⟨[.sh y, .un, .sh (plD x)], (by
    have e := hrec x hx
    exists e), rfl, rfl⟩)
  rw [this, List.filterMap_eq_map']
theorem tx_step (h : PlOk p) (hd : dpP p ≤ k + 1) (hz : (plT p).length ≤ 5000) (hrec : ∀ q, PlOk q → dpP q ≤ k → (plT q).length ≤ 5000 → Frec [plD q] = .ok (.str (plT q), false)) : (bnd ((mm_text_of Frec) [.sh (plD p), .un, .un]) fun r => endOf r.1) = .ok (.str (plT p), false) := by
  cases p with
  | ov a b c =>
    have ea := e_tol h.1
    have eb := e_tol h.2.1
    obtain ⟨t, u, ec, es⟩ := e_mof h.2.2
    have la := (lv_word h.1).2.2
    have lb := (lv_word h.2.1).2.2
    have lc := (mo_word h.2.2).2.2
    show (bnd ((mm_text_of Frec) [.sh (.tup [.str overW, lvD a, lvD b, moD c]), .un, .un]) fun r => endOf r.1) = _
    exists ea, eb, ec, es
    rw [plE_ov]
    simp
  | ng x =>
    have hx : (plT x).length ≤ 5000 := by
      rw [plE_ng] at hz
      simp only [List.length_cons, List.length_append, List.length_nil] at hz
      omega
    have el := tx_lc (Frec := Frec) (y := .tup [.str notW, plD x]) (qs := [x]) (by simp) fun q hq => by
      rw [List.mem_singleton.mp hq]; exact hrec x h (by unfold dpP at hd; omega) hx
    replace el : lcS (gN 2) none (eN Frec [eVar 2]) [2] [plD x] [.sh (.tup [.str notW, plD x]), .un, .un] = .ok ((.lst [.str (plT x)], true), [.sh (.tup [.str notW, plD x]), .un, .un]) := el
    have nw : decide (notW = overW) = false := rfl
    have ej := join2 (a := notW) (b := plT x) (by show 3 + _ ≤ _; omega)
    show (bnd ((mm_text_of Frec) [.sh (.tup [.str notW, plD x]), .un, .un]) fun r => endOf r.1) = _
    exists cut_t1, nw, el, ej
    rw [plE_ng]
    simp
  | tw i x y =>
    have h' : PlOk x ∧ PlOk y := h
    have hx : (plT x).length ≤ 5000 ∧ (plT y).length ≤ 5000 := by
      rw [plE_tw] at hz
      simp only [List.length_cons, List.length_append, List.length_nil] at hz
      omega
    have el := tx_lc (Frec := Frec) (y := .tup [.str (twW i), plD x, plD y]) (qs := [x, y]) (by simp) fun q hq => by
      unfold dpP at hd
      simp only [List.mem_cons, List.not_mem_nil, or_false] at hq
      rcases hq with rfl | rfl
      · exact hrec _ h'.1 (by omega) hx.1
      · exact hrec _ h'.2 (by omega) hx.2
    replace el : lcS (gN 2) none (eN Frec [eVar 2]) [2] [plD x, plD y] [.sh (.tup [.str (twW i), plD x, plD y]), .un, .un] = .ok ((.lst [.str (plT x), .str (plT y)], true), [.sh (.tup [.str (twW i), plD x, plD y]), .un, .un]) := el
    have nw : decide (twW i = overW) = false := by cases i <;> rfl
    have tl := tw_len (i := i)
    have ej := join3 (a := twW i) (b := plT x) (c := plT y) (by omega)
    show (bnd ((mm_text_of Frec) [.sh (.tup [.str (twW i), plD x, plD y]), .un, .un]) fun r => endOf r.1) = _
    exists cut_t1, nw, el, ej
    rw [plE_tw]
    simp
  | th x y z =>
    have h' : PlOk x ∧ PlOk y ∧ PlOk z := h
    have hx : (plT x).length ≤ 5000 ∧ (plT y).length ≤ 5000 ∧ (plT z).length ≤ 5000 := by
      rw [plE_th] at hz
      simp only [List.length_cons, List.length_append, List.length_nil] at hz
      omega
    have el := tx_lc (Frec := Frec) (y := .tup [.str orW, plD x, plD y, plD z]) (qs := [x, y, z]) (by simp) fun q hq => by
      unfold dpP at hd
      simp only [List.mem_cons, List.not_mem_nil, or_false] at hq
      rcases hq with rfl | rfl | rfl
      · exact hrec _ h'.1 (by omega) hx.1
      · exact hrec _ h'.2.1 (by omega) hx.2.1
      · exact hrec _ h'.2.2 (by omega) hx.2.2
    replace el : lcS (gN 2) none (eN Frec [eVar 2]) [2] [plD x, plD y, plD z] [.sh (.tup [.str orW, plD x, plD y, plD z]), .un, .un] = .ok ((.lst [.str (plT x), .str (plT y), .str (plT z)], true), [.sh (.tup [.str orW, plD x, plD y, plD z]), .un, .un]) := el
    have nw : decide (orW = overW) = false := rfl
    have ej := join4 (a := orW) (b := plT x) (c := plT y) (d := plT z) (by show 2 + _ + _ + _ ≤ _; omega)
    show (bnd ((mm_text_of Frec) [.sh (.tup [.str orW, plD x, plD y, plD z]), .un, .un]) fun r => endOf r.1) = _
    exists cut_t1, nw, el, ej
    rw [plE_th]
    simp
theorem e_tx1 (h : PlOk p) (hd : dpP p ≤ 1) (hz : (plT p).length ≤ 5000) : F_text_of_r1 [plD p] = .ok (.str (plT p), false) := by
  rw [o_text_of_r1]
  exact tx_step (k := 0) h hd hz fun q _ hq => by have := dp_pos (p := q); omega
theorem e_tx2 (h : PlOk p) (hd : dpP p ≤ 2) (hz : (plT p).length ≤ 5000) : F_text_of_r2 [plD p] = .ok (.str (plT p), false) := by
  rw [o_text_of_r2]
  exact tx_step (k := 1) h hd hz fun q hq dq zq => e_tx1 hq dq zq
theorem e_tx3 (h : PlOk p) (hd : dpP p ≤ 3) (hz : (plT p).length ≤ 5000) : F_text_of_r3 [plD p] = .ok (.str (plT p), false) := by
  rw [o_text_of_r3]
  exact tx_step (k := 2) h hd hz fun q hq dq zq => e_tx2 hq dq zq
/-! the law's own text -/
theorem wr_lc {y : D} {qs : List Pl} (hl : qs.length ≤ 1000) (hrec : ∀ q ∈ qs, Frec [plD q] = .ok (.str (plT q), false)) : lcS (gN 4) none (eN Frec [eVar 4]) [4] (qs.map plD) [.sh y, .un, .un, .un, .un] = .ok ((.lst (qs.map fun q => .str (plT q)), true), [.sh y, .un, .un, .un, .un]) := by
  have := lc_eq (α := Pl) (mk := plD) (xs := qs) (g := gN 4) (c := none) (e := eN Frec [eVar 4]) (vs := [4]) (ρ := [.sh y, .un, .un, .un, .un]) (fun x => some (.str (plT x))) rfl hl (fun x hx => ⟨[.sh y, .un, .un, .un, .sh (plD x)], (by
    have e := hrec x hx
    exists e), rfl, rfl⟩)
  rw [this, List.filterMap_eq_map']
theorem wr_step (h : PlOk p) (hd : dpP p ≤ k + 1) (hz : (plT p).length ≤ 5000) (hrec : ∀ q, PlOk q → dpP q ≤ k → (plT q).length ≤ 5000 → Frec [plD q] = .ok (.str (plT q), false)) : (bnd ((mm__law_written Frec) [.sh (plD p), .un, .un, .un, .un]) fun r => endOf r.1) = .ok (.str (plT p), false) := by
  cases p with
  | ov a b c =>
    have ea := e_ltext h.1
    have eb := e_ltext h.2.1
    have la := (lv_word h.1).2.2
    have lb := (lv_word h.2.1).2.2
    have lc := (mo_word h.2.2).2.2
    have ej := join3 (a := lvT a) (b := lvT b) (c := moT c) (by omega)
    cases c with
    | it i =>
      obtain ⟨_, h2, h3⟩ := mo_it h.2.2
      have es := str_k h2
      replace ej : joinB (.str [32]) (.lst [.str (lvT a), .str (lvT b), .str (figs i)]) = _ := ej
      show (bnd ((mm__law_written Frec) [.sh (.tup [.str overW, lvD a, lvD b, .int i]), .un, .un, .un, .un]) fun r => endOf r.1) = _
      have lt : (moT (.it i)).length ≤ 20 := lc
      exists ea, eb, es, ej
      rw [plE_ov]
      simp
    | fr u v =>
      obtain ⟨_, h2, h3, h4, h5, h6, h7⟩ := mo_fr h.2.2
      have e1 := str_k h4
      have e2 := str_k (i := (v : Nat)) (by rw [Int.natAbs_natCast]; exact h5)
      have n1 : ¬ ((v : Nat) : Int) = 1 := by omega
      have e3 : moT (.fr u v) = figs u ++ 47 :: figs (v : Nat) := rfl
      rw [e3] at ej
      show (bnd ((mm__law_written Frec) [.sh (.tup [.str overW, lvD a, lvD b, .tup [.int u, .int (v : Nat)]]), .un, .un, .un, .un]) fun r => endOf r.1) = _
      have lt : (figs u ++ 47 :: figs (v : Nat)).length ≤ 20 := lc
      exists ea, eb, e1, e2, List.append_assoc, ej
      rw [plE_ov]
      simp [e3]
  | ng x =>
    have hx : (plT x).length ≤ 5000 := by
      rw [plE_ng] at hz
      simp only [List.length_cons, List.length_append, List.length_nil] at hz
      omega
    have el := wr_lc (Frec := Frec) (y := .tup [.str notW, plD x]) (qs := [x]) (by simp) fun q hq => by
      rw [List.mem_singleton.mp hq]; exact hrec x h (by unfold dpP at hd; omega) hx
    replace el : lcS (gN 4) none (eN Frec [eVar 4]) [4] [plD x] [.sh (.tup [.str notW, plD x]), .un, .un, .un, .un] = .ok ((.lst [.str (plT x)], true), [.sh (.tup [.str notW, plD x]), .un, .un, .un, .un]) := el
    have nw : decide (notW = overW) = false := rfl
    have ej := join2 (a := notW) (b := plT x) (by show 3 + _ ≤ _; omega)
    show (bnd ((mm__law_written Frec) [.sh (.tup [.str notW, plD x]), .un, .un, .un, .un]) fun r => endOf r.1) = _
    exists cut_t1, nw, el, ej
    rw [plE_ng]
    simp
  | tw i x y =>
    have h' : PlOk x ∧ PlOk y := h
    have hx : (plT x).length ≤ 5000 ∧ (plT y).length ≤ 5000 := by
      rw [plE_tw] at hz
      simp only [List.length_cons, List.length_append, List.length_nil] at hz
      omega
    have el := wr_lc (Frec := Frec) (y := .tup [.str (twW i), plD x, plD y]) (qs := [x, y]) (by simp) fun q hq => by
      unfold dpP at hd
      simp only [List.mem_cons, List.not_mem_nil, or_false] at hq
      rcases hq with rfl | rfl
      · exact hrec _ h'.1 (by omega) hx.1
      · exact hrec _ h'.2 (by omega) hx.2
    replace el : lcS (gN 4) none (eN Frec [eVar 4]) [4] [plD x, plD y] [.sh (.tup [.str (twW i), plD x, plD y]), .un, .un, .un, .un] = .ok ((.lst [.str (plT x), .str (plT y)], true), [.sh (.tup [.str (twW i), plD x, plD y]), .un, .un, .un, .un]) := el
    have nw : decide (twW i = overW) = false := by cases i <;> rfl
    have tl := tw_len (i := i)
    have ej := join3 (a := twW i) (b := plT x) (c := plT y) (by omega)
    show (bnd ((mm__law_written Frec) [.sh (.tup [.str (twW i), plD x, plD y]), .un, .un, .un, .un]) fun r => endOf r.1) = _
    exists cut_t1, nw, el, ej
    rw [plE_tw]
    simp
  | th x y z =>
    have h' : PlOk x ∧ PlOk y ∧ PlOk z := h
    have hx : (plT x).length ≤ 5000 ∧ (plT y).length ≤ 5000 ∧ (plT z).length ≤ 5000 := by
      rw [plE_th] at hz
      simp only [List.length_cons, List.length_append, List.length_nil] at hz
      omega
    have el := wr_lc (Frec := Frec) (y := .tup [.str orW, plD x, plD y, plD z]) (qs := [x, y, z]) (by simp) fun q hq => by
      unfold dpP at hd
      simp only [List.mem_cons, List.not_mem_nil, or_false] at hq
      rcases hq with rfl | rfl | rfl
      · exact hrec _ h'.1 (by omega) hx.1
      · exact hrec _ h'.2.1 (by omega) hx.2.1
      · exact hrec _ h'.2.2 (by omega) hx.2.2
    replace el : lcS (gN 4) none (eN Frec [eVar 4]) [4] [plD x, plD y, plD z] [.sh (.tup [.str orW, plD x, plD y, plD z]), .un, .un, .un, .un] = .ok ((.lst [.str (plT x), .str (plT y), .str (plT z)], true), [.sh (.tup [.str orW, plD x, plD y, plD z]), .un, .un, .un, .un]) := el
    have nw : decide (orW = overW) = false := rfl
    have ej := join4 (a := orW) (b := plT x) (c := plT y) (d := plT z) (by show 2 + _ + _ + _ ≤ _; omega)
    show (bnd ((mm__law_written Frec) [.sh (.tup [.str orW, plD x, plD y, plD z]), .un, .un, .un, .un]) fun r => endOf r.1) = _
    exists cut_t1, nw, el, ej
    rw [plE_th]
    simp
theorem e_wr1 (h : PlOk p) (hd : dpP p ≤ 1) (hz : (plT p).length ≤ 5000) : F__law_written_r1 [plD p] = .ok (.str (plT p), false) := by
  rw [o__law_written_r1]
  exact wr_step (k := 0) h hd hz fun q _ hq => by have := dp_pos (p := q); omega
theorem e_wr2 (h : PlOk p) (hd : dpP p ≤ 2) (hz : (plT p).length ≤ 5000) : F__law_written_r2 [plD p] = .ok (.str (plT p), false) := by
  rw [o__law_written_r2]
  exact wr_step (k := 1) h hd hz fun q hq dq zq => e_wr1 hq dq zq
theorem e_wr3 (h : PlOk p) (hd : dpP p ≤ 3) (hz : (plT p).length ≤ 5000) : F__law_written_r3 [plD p] = .ok (.str (plT p), false) := by
  rw [o__law_written_r3]
  exact wr_step (k := 2) h hd hz fun q hq dq zq => e_wr2 hq dq zq
end

--#NEW
/-! ### heads of wishes; the law's own looks -/
def hdB : D → Bool
  | .tup (.str w :: xs) =>
    if w = overW then (match xs with
      | [a, b, c] => levB a && (levB b && morB c)
      | _ => false)
    else if w = andW ∨ w = orW then decide (2 ≤ xs.length) && decide (xs.length ≤ 6)
    else (decide (w = notW) && decide (xs.length = 1)) || (decide (w = ifW) && decide (xs.length = 2))
  | _ => false
section
variable {n w : Nat} {d : D}
theorem hdB_ns {x0 : D} {r : List D} (h : ∀ s, x0 ≠ .str s) : hdB (.tup (x0 :: r)) = false := by
  unfold hdB
  split <;> first | rfl | (rename_i e; cases e; exact absurd rfl (h _))
theorem hdB_over {a b c : D} : hdB (.tup [.str overW, a, b, c]) = (levB a && (levB b && morB c)) := rfl
theorem hdB_overF {r : List D} (h : r.length ≠ 3) : hdB (.tup (.str overW :: r)) = false := by
  match r, h with
  | [], _ => rfl
  | [a], _ => rfl
  | [a, b], _ => rfl
  | [a, b, c], h => exact absurd rfl h
  | a :: b :: c :: x :: r, _ => rfl
theorem hdB_and {s : List Nat} {r : List D} (h : s = andW ∨ s = orW) : hdB (.tup (.str s :: r)) = (decide (2 ≤ r.length) && decide (r.length ≤ 6)) := by
  rcases h with rfl | rfl <;> rfl
theorem hdB_not {r : List D} : hdB (.tup (.str notW :: r)) = decide (r.length = 1) := by
  show ((decide (r.length = 1)) || false) = _
  cases decide (r.length = 1) <;> rfl
theorem hdB_if {r : List D} : hdB (.tup (.str ifW :: r)) = decide (r.length = 2) := by
  show (false || (decide (r.length = 2))) = _
  cases decide (r.length = 2) <;> rfl
theorem hdB_no {s : List Nat} {r : List D} (h1 : s ≠ overW) (h2 : s ≠ andW) (h3 : s ≠ orW) (h4 : s ≠ notW) (h5 : s ≠ ifW) : hdB (.tup (.str s :: r)) = false := by
  unfold hdB
  dsimp only
  rw [if_neg h1, if_neg (by rintro (z | z); exact h2 z; exact h3 z), decide_eq_false h4, decide_eq_false h5]; rfl
theorem in_and {s : List Nat} (h : sok s = true) : inD (.str s) (.tup [.str andW, .str orW]) = .ok (.bl (decide (s = andW ∨ s = orW)), false) := by
  rw [in_t (by rfl)]
  show R.ok (D.bl (eqv (.str andW) (.str s) || (eqv (.str orW) (.str s) || false)), false) = _
  rw [eqv_s, eqv_s, Bool.or_false, ← Bool.decide_or, decide_eq_decide.mpr (show andW = s ∨ orW = s ↔ s = andW ∨ s = orW by constructor <;> (rintro (z | z) <;> simp [z]))]
theorem e_hd (h : pl n w d = true) (hn : n ≤ 40) (hw : w ≤ 100) : F_is_headed [d] = .ok (.bl (hdB d), false) := by
  refine pl_any h (fun e => ?_) (fun p e => ?_) (fun i e z => ?_) (fun s e z1 z2 => ?_) (fun xs e => ?_) (fun xs e => ?_) <;> subst e
  · rw [o_is_headed]; exists bnd_ok; rfl
  · rw [o_is_headed]; exists bnd_ok; rfl
  · rw [o_is_headed]; exists bnd_ok; rfl
  · rw [o_is_headed]; exists bnd_ok; rfl
  · obtain ⟨m, rfl, h1, h2⟩ := pl_tup h
    cases xs with
    | nil => rw [o_is_headed]; exists bnd_ok; rfl
    | cons x0 r =>
      have p0 := h2 x0 (List.mem_cons_self ..)
      have hne := eq_ne h hn
      have hlt : 0 < (x0 :: r).length := by simp
      refine pl_any p0 (fun e => ?_) (fun p e => ?_) (fun i e z => ?_) (fun s e z1 z2 => ?_) (fun xs e => ?_) (fun xs e => ?_) <;> subst e
      · rw [o_is_headed, hdB_ns (by simp)]; exists hne
      · rw [o_is_headed, hdB_ns (by simp)]; exists hne
      · rw [o_is_headed, hdB_ns (by simp)]; exists hne
      · have ei := in_and z1
        rw [o_is_headed]
        by_cases q1 : s = overW
        · subst q1
          by_cases q : r.length = 3
          · obtain ⟨a, b, c, rfl⟩ : ∃ a b c, r = [a, b, c] := by
              match r, q with
              | [a, b, c], _ => exact ⟨a, b, c, rfl⟩
            have ea := e_lev (h2 a (by simp)) (by omega)
            have eb := e_lev (h2 b (by simp)) (by omega)
            have ec := e_mor (h2 c (by simp)) (by omega)
            rw [hdB_over]
            cases za : levB a with
            | false => exists hne, ea, za; rfl
            | true => cases zb : levB b with
              | false => exists hne, ea, za, eb, zb; rfl
              | true => exists hne, ea, za, eb, zb, ec; rfl
          · rw [hdB_overF q]
            exists hne
        · by_cases q2 : s = andW ∨ s = orW
          · rw [hdB_and q2]
            have el : ((r.length + 1 : Nat) : Int) - 1 = (r.length : Nat) := by omega
            by_cases g1 : 2 ≤ r.length
            · have g1' : (2 : Int) ≤ (r.length : Nat) := by omega
              exists hne, ei, el
              rw [decide_eq_true g1, decide_eq_decide.mpr (show ((r.length : Nat) : Int) ≤ 6 ↔ r.length ≤ 6 by omega)]; rfl
            · have g1' : ¬ (2 : Int) ≤ (r.length : Nat) := by omega
              exists hne, ei, el
              rw [decide_eq_false g1]; rfl
          · have el : ((r.length + 1 : Nat) : Int) - 1 = (r.length : Nat) := by omega
            have e1 : decide (((r.length : Nat) : Int) = 1) = decide (r.length = 1) := decide_eq_decide.mpr (by omega)
            have e2 : decide (((r.length : Nat) : Int) = 2) = decide (r.length = 2) := decide_eq_decide.mpr (by omega)
            by_cases q3 : s = notW
            · subst q3
              rw [hdB_not]
              by_cases g : r.length = 1
              · have g' : ((r.length : Nat) : Int) = 1 := by omega
                exists hne, ei, el
                rw [decide_eq_true g]
              · have g' : ¬ ((r.length : Nat) : Int) = 1 := by omega
                have nf : ¬ notW = ifW := by decide
                exists hne, ei, el
                rw [decide_eq_false g]
            · by_cases q4 : s = ifW
              · subst q4
                rw [hdB_if]
                exists hne, ei, el
                rw [e2]
              · rw [hdB_no q1 (fun z => q2 (.inl z)) (fun z => q2 (.inr z)) q3 q4]
                exists hne, ei, el
      · rw [o_is_headed, hdB_ns (by simp)]; exists hne
      · rw [o_is_headed, hdB_ns (by simp)]; exists hne
  · rw [o_is_headed]; exists bnd_ok; rfl
end

--#NEW
/-! ### overs_in -/
def okW : Nat → D → Bool
  | 0, _ => false
  | r + 1, .tup (.str w :: xs) => hdB (.tup (.str w :: xs)) && (decide (w = overW) || xs.all (okW r))
  | _ + 1, _ => false
def ctW : Nat → D → Nat
  | 0, _ => 0
  | r + 1, .tup (.str w :: xs) => if w = overW then 1 else (xs.map (ctW r)).sum
  | _ + 1, _ => 0
/-- a wish -/
def GoodW (d : D) : Prop := okW 5 d = true ∧ ctW 5 d ≤ 8
instance (d : D) : Decidable (GoodW d) := by unfold GoodW; infer_instance
theorem okW_no {r : Nat} {d : D} (h : ∀ w xs, d ≠ .tup (.str w :: xs)) : okW r d = false := by
  cases r with
  | zero => rfl
  | succ r => cases d with
    | tup ys => cases ys with
      | nil => rfl
      | cons y ys => cases y with
        | str w => exact absurd rfl (h _ _)
        | _ => rfl
    | _ => rfl
theorem okW_hd {r : Nat} {d : D} (h : hdB d = false) : okW r d = false := by
  by_cases q : ∃ w xs, d = .tup (.str w :: xs)
  · obtain ⟨w, xs, rfl⟩ := q
    cases r with
    | zero => rfl
    | succ r => show (hdB _ && _) = false; rw [h]; rfl
  · exact okW_no fun w xs e => q ⟨w, xs, e⟩
theorem hdB_shape {d : D} (h : hdB d = true) : ∃ s xs, d = .tup (.str s :: xs) := by
  unfold hdB at h
  split at h
  · exact ⟨_, _, rfl⟩
  · cases h
/-- what waits -/
@[reducible] def wtD (p : D × Nat) : D := .tup [p.1, .int (p.2 : Nat)]
def gW (p : D × Nat) : Bool := okW (5 - p.2) p.1
def cW (p : D × Nat) : Nat := ctW (5 - p.2) p.1
def mW (W : List (D × Nat)) : Nat := (W.map fun p => wt p.1 + 1).sum

--#NEW
/-! ### overs_in, run -/
def mD : D → Nat
  | .tup [x, _] => wt x + 1
  | _ => 0
theorem mD_map (W : List (D × Nat)) : ((W.map wtD).map mD).sum = mW W := by rw [List.map_map]; rfl
theorem neE_0 : neE (.lst []) (.lst []) = .ok (.bl false, false) := rfl
theorem neE_1 {xs : List D} {x : D} : neE (.lst (xs ++ [x])) (.lst []) = .ok (.bl true, false) := by
  show R.ok (D.bl (!(xs ++ [x]).isEmpty), false) = _
  rw [show (xs ++ [x]).isEmpty = false by simp]; rfl
theorem pop_app {xs : List D} {x : D} : popM (.lst (xs ++ [x])) [] = .ok (x, .lst xs) := by
  unfold popM
  have e : (xs ++ [x])[(xs ++ [x]).length - 1]? = some x := by
    rw [List.length_append, List.length_singleton, Nat.add_sub_cancel, List.getElem?_append_right (Nat.le_refl _), Nat.sub_self]; rfl
  dsimp only
  rw [e]
  simp
theorem ext_eq {xs ys : List D} (h : xs.length + ys.length ≤ 100000) : extendM (.lst xs) [.lst ys] = .ok (.non, .lst (xs ++ ys)) := if_pos h
theorem tail_eq {x : D} {xs : List D} (h : (x :: xs).length ≤ 1000) : tailRD (.tup (x :: xs)) = .ok (.tup xs.reverse, false) := if_pos h
theorem mW_app {W V : List (D × Nat)} : mW (W ++ V) = mW W + mW V := by unfold mW; rw [List.map_append, List.sum_append]
theorem mW_len : ∀ {W : List (D × Nat)}, W.length ≤ mW W
  | [] => Nat.le_refl _
  | p :: W => by
    have := mW_len (W := W)
    show W.length + 1 ≤ (wt p.1 + 1) + mW W
    omega
theorem mW_kids {xs : List D} {k : Nat} : mW (xs.map fun x => (x, k)) = wts xs := by
  induction xs with
  | nil => rfl
  | cons x xs ih => rw [wts_cons, ← ih]; rfl
theorem gW_kids {s : List Nat} {xs : List D} {k : Nat} (hk : k ≤ 4) (hh : hdB (.tup (.str s :: xs)) = true) (hs : s ≠ overW) : (gW (.tup (.str s :: xs), k) = true ↔ ∀ p ∈ xs.map (fun x => (x, k + 1)), gW p = true) ∧ cW (.tup (.str s :: xs), k) = ((xs.map fun x => (x, k + 1)).map cW).sum := by
  obtain ⟨r, hr⟩ : ∃ r, 5 - k = r + 1 := ⟨4 - k, by omega⟩
  have hr2 : 5 - (k + 1) = r := by omega
  constructor
  · show okW (5 - k) _ = true ↔ _
    rw [hr]
    show ((hdB _ && (decide (s = overW) || xs.all (okW r))) = true) ↔ _
    rw [hh, decide_eq_false hs, Bool.true_and, Bool.false_or, List.all_eq_true]
    constructor
    · intro h p hp
      obtain ⟨x, hx, rfl⟩ := List.mem_map.mp hp
      show okW (5 - (k + 1)) x = true
      rw [hr2]; exact h x hx
    · intro h x hx
      have := h (x, k + 1) (List.mem_map.mpr ⟨x, hx, rfl⟩)
      unfold gW at this
      dsimp only at this
      rwa [hr2] at this
  · show ctW (5 - k) _ = _
    rw [hr]
    show (if s = overW then 1 else (xs.map (ctW r)).sum) = _
    rw [if_neg hs, List.map_map]
    congr 1
    refine List.map_congr_left fun x _ => ?_
    show ctW r x = ctW (5 - (k + 1)) x
    rw [hr2]
theorem gW_over {xs : List D} {k : Nat} (hk : k ≤ 4) (hh : hdB (.tup (.str overW :: xs)) = true) : gW (.tup (.str overW :: xs), k) = true ∧ cW (.tup (.str overW :: xs), k) = 1 := by
  obtain ⟨r, hr⟩ : ∃ r, 5 - k = r + 1 := ⟨4 - k, by omega⟩
  constructor
  · show okW (5 - k) _ = true
    rw [hr]
    show ((hdB _ && (decide (overW = overW) || xs.all (okW r))) = true)
    rw [hh, decide_eq_true rfl]; rfl
  · show ctW (5 - k) _ = _
    rw [hr]; rfl
theorem kids_lc {a b c e s5 : Slot} {xs : List D} {k : Nat} (hl : xs.length ≤ 1000) (z5 : okS (some s5) = true) : lcS (gN 5) none (eN mkTup [eVar 5, eBin (addD no2) (eVar 4) (eC (.int 1))]) [5] xs [a, b, c, e, .sh (.int (k : Nat)), s5] = .ok ((.lst ((xs.map fun x => (x, k + 1)).map wtD), true), [a, b, c, e, .sh (.int (k : Nat)), s5]) := by
  have := lc_eq (α := D) (mk := fun x => x) (xs := xs) (g := gN 5) (c := none) (e := eN mkTup [eVar 5, eBin (addD no2) (eVar 4) (eC (.int 1))]) (vs := [5]) (ρ := [a, b, c, e, .sh (.int (k : Nat)), s5]) (fun x => some (wtD (x, k + 1))) (by cases s5 <;> first | rfl | cases z5) hl (fun x hx => ⟨[a, b, c, e, .sh (.int (k : Nat)), .sh x], by
    exists neE_0, neE_1
    rfl, rfl, rfl⟩)
  rw [List.map_id'] at this
  rw [this, List.map_map, List.filterMap_eq_map']; rfl
section
variable {n w : Nat} {d : D}
theorem e_overs (h : pl n w d = true) (hn : n ≤ 40) (hw : w ≤ 100) (hz : wt d ≤ 6600) : Wn (F_overs_in [d]) fun y => (GoodW d ∧ ∃ fs, y = (.lst fs, true)) ∨ (¬ GoodW d ∧ y = (.non, false)) := by
  rw [o_overs_in]
  exists neE_0, neE_1
  refine wp_while (fun ρ : Env => match (ρ[2]? : Option Slot) with | some (.ow (.lst ws)) => (ws.map mD).sum | _ => 0) (fun ρ => ∃ fs W s3 s4 s5, ρ = [.sh d, .ow (.lst fs), .ow (.lst (W.map wtD)), s3, s4, s5] ∧ okS (some s5) = true ∧ (∀ p ∈ W, pl n w p.1 = true) ∧ mW W ≤ 6601 ∧ fs.length ≤ 8 ∧ (GoodW d ↔ (∀ p ∈ W, gW p = true) ∧ fs.length + (W.map cW).sum ≤ 8)) ⟨[], [(d, 0)], _, _, _, rfl, rfl, fun p hp => by rw [List.mem_singleton.mp hp]; exact h, by show wt d + 1 + 0 ≤ 6601; omega, by simp, ?_⟩ (fun ρ q => ?_) fun ρ q => ?_
  · unfold GoodW
    constructor
    · intro z
      exact ⟨fun p hp => by rw [List.mem_singleton.mp hp]; exact z.1, by show 0 + (ctW 5 d + 0) ≤ 8; omega⟩
    · intro z
      exact ⟨z.1 (d, 0) (by simp), by have z2 : 0 + (ctW 5 d + 0) ≤ 8 := z.2; omega⟩
  · obtain ⟨fs, W, s3, s4, s5, rfl, z5, h1, h2, h3, h4⟩ := q
    show ((W.map wtD).map mD).sum < 2 ^ 9000
    rw [mD_map]
    exact Nat.lt_of_le_of_lt h2 (Nat.lt_of_lt_of_le (by decide : 6601 < 2 ^ 20) (Nat.pow_le_pow_right (by decide) (by decide)))
  · obtain ⟨fs, W, s3, s4, s5, rfl, z5, h1, h2, h3, h4⟩ := q
    rcases List.eq_nil_or_concat W with rfl | ⟨V, p, rfl⟩
    · have z : GoodW d := h4.mpr ⟨fun p hp => (by cases hp), by simpa using h3⟩
      simp only [List.map_nil]
      exists neE_0, neE_1
      first | exact .inl ⟨z, _, rfl⟩ | exact z | trace_state
    · rw [List.concat_eq_append] at *
      simp only [List.map_append, List.map_cons, List.map_nil]
      obtain ⟨x, k⟩ := p
      have px : pl n w x = true := h1 (x, k) (by simp)
      have h1' : ∀ p ∈ V, pl n w p.1 = true := fun p hp => h1 p (List.mem_append_left _ hp)
      have hm : mW V + (wt x + 1) ≤ 6601 := by rw [mW_app] at h2; exact h2
      have hg : GoodW d ↔ ((∀ p ∈ V, gW p = true) ∧ gW (x, k) = true) ∧ fs.length + ((V.map cW).sum + cW (x, k)) ≤ 8 := by
        rw [h4, List.map_append, List.sum_append]
        refine and_congr ⟨fun z => ⟨fun p hp => z p (List.mem_append_left _ hp), z _ (by simp)⟩, fun z p hp => ?_⟩ (by simp)
        rcases List.mem_append.mp hp with hp | hp
        · exact z.1 p hp
        · rw [List.mem_singleton.mp hp]; exact z.2
      clear h4 h1 h2
      have ep := pop_app (xs := V.map wtD) (x := wtD (x, k))
      have eh := e_hd px hn hw
      by_cases hk : k ≤ 4
      · have hk' : ¬ (4 : Int) < (k : Nat) := by omega
        cases hh : hdB x with
        | false =>
          have : ¬ GoodW d := fun z => by
            have := (hg.mp z).1.2
            unfold gW at this
            rw [okW_hd hh] at this; cases this
          exists neE_0, neE_1, ep, eh, hh
          first | exact .inr ⟨this, rfl⟩ | exact .inr this | exact this
        | true =>
          obtain ⟨s, xs, rfl⟩ := hdB_shape hh
          by_cases q : s = overW
          · subst q
            obtain ⟨g1, g2⟩ := gW_over hk hh
            rw [g2] at hg
            have al : fs.length < 1000 := by omega
            by_cases q8 : fs.length ≤ 7
            · have q8' : ¬ (8 : Int) < ((fs ++ [D.tup (.str overW :: xs)]).length : Nat) := by rw [List.length_append, List.length_singleton]; omega
              exists neE_0, neE_1, ep, eh, hh
              refine ⟨⟨_, V, _, _, _, rfl, z5, h1', by omega, by rw [List.length_append, List.length_singleton]; omega, ?_⟩, ?_⟩
              · rw [hg, List.length_append, List.length_singleton]
                exact and_congr ⟨fun z => z.1, fun z => ⟨z, g1⟩⟩ (by omega)
              · rw [mD_map, mD_map, mW_app]
                show mW V < mW V + (wt _ + 1 + 0)
                omega
            · have q8' : (8 : Int) < ((fs ++ [D.tup (.str overW :: xs)]).length : Nat) := by rw [List.length_append, List.length_singleton]; omega
              have : ¬ GoodW d := fun z => by
                have := (hg.mp z).2
                omega
              exists neE_0, neE_1, ep, eh, hh
              first | exact .inr ⟨this, rfl⟩ | exact .inr this | exact this
          · obtain ⟨g1, g2⟩ := gW_kids hk hh q
            obtain ⟨m, rfl, hx1, hx2⟩ := pl_tup px
            have et := tail_eq (x := .str s) (xs := xs) (by omega)
            have hwt : wt (.tup (.str s :: xs)) = s.length + 1 + wts xs := by rw [wt_tup, wts_cons, wt_str]
            have hxl : xs.length ≤ 100 := by have := hx1; simp at this; omega
            have hvl := mW_len (W := V)
            have ex := ext_eq (xs := V.map wtD) (ys := (xs.reverse.map fun x => (x, k + 1)).map wtD) (by simp; omega)
            have ek := kids_lc (a := .sh d) (b := .ow (.lst fs)) (c := .ow (.lst (V.map wtD))) (e := .sh (.tup (.str s :: xs))) (s5 := s5) (k := k) (xs := xs.reverse) (by rw [List.length_reverse]; omega) z5
            exists neE_0, neE_1, ep, eh, hh, et, ek, ex
            refine ⟨⟨fs, V ++ xs.reverse.map (fun x => (x, k + 1)), _, _, _, by rw [List.map_append], z5, fun p hp => ?_, ?_, h3, ?_⟩, ?_⟩
            · rcases List.mem_append.mp hp with hp | hp
              · exact h1' p hp
              · obtain ⟨y, hy, rfl⟩ := List.mem_map.mp hp
                exact pl_mono (by omega) (Nat.le_refl _) (hx2 y (List.mem_cons_of_mem _ (List.mem_reverse.mp hy)))
            · rw [mW_app, mW_kids, wts_rev]; omega
            · rw [hg, g1, g2, List.map_append, List.sum_append, List.map_reverse, List.map_reverse, List.sum_reverse]
              refine and_congr ⟨fun z p hp => ?_, fun z => ⟨fun p hp => z p (List.mem_append_left _ hp), fun p hp => z p (List.mem_append_right _ (List.mem_reverse.mpr hp))⟩⟩ (Iff.rfl)
              rcases List.mem_append.mp hp with hp | hp
              · exact z.1 p hp
              · exact z.2 p (List.mem_reverse.mp hp)
            · rw [← List.map_append, mD_map, mD_map, mW_app, mW_app, mW_kids, wts_rev]
              show mW V + wts xs < mW V + (wt (.tup (.str s :: xs)) + 1 + 0)
              omega
      · have hk' : (4 : Int) < (k : Nat) := by omega
        have : ¬ GoodW d := fun z => by
          have := (hg.mp z).1.2
          unfold gW at this
          rw [show 5 - k = 0 by omega] at this
          cases this
        exists neE_0, neE_1, ep
        first | exact .inr ⟨this, rfl⟩ | exact .inr this | exact this
end

local macro_rules | `(tactic| exists $es,*) => do
  let ls ← es.getElems.mapM fun e => `(Lean.Parser.Tactic.simpLemma| $e:term)
  `(tactic| simp -dsimp -implicitDefEqProofs (disch := walk_at "ds") only [bnd_ok, bnd_bnd, Wn_ok, cnd_t, cnd_f, cnd_n, cnd_p, cnd_q, varG_sh, varG_ow, movG_sh, movG_ow, lookG_sh, lookG_ow, ownG_ow, get_0, get_s, set_0, set_s, ev_var, ev_mov0, ev_look, ev_c, ev_bin, ev_un, ev_bor, ev_borR, ev_bor1, ev_nil, ev_cons, ev_n, ev_if, ev_and, ev_or, notR_bl, ev_not, ev_chain, ev_callR, ev_callT, ev_nk, isL_ok, ev_mut, intR_i, ev_part0, ev_part1, ev_slice, seqk_nx, seqk_rt, ev_seq, ev_next, keep_tt, keep_tf, ev_asg, ev_par, ev_gN, ev_gTt, ev_gTk, ev_g0, ev_g1, ev_asgT, ev_expr, ev_ret, ev_retV, ev_sif, ev_for, ev_while, ev_put, ev_fld, fldG_0, fldG_1, end_nx, end_rt, objE_go, ev_iv, items_lst, items_tup, items_str, ev_range, rngG_1, LK_nx, LK_bk, LK_rt, cndO_none, ev_lc, add_i, add_s, add_l, add_t, sub_i, mul_i, fdiv_i, mod_i, pow_i, neg_i, lt_i, le_i, le_s, gt_i, ge_i, eq_i, eq_s, eq_o, ne_i, ne_s, isN_i, isN_l, isN_o, sel_t, sel1_t, in_c, nin_c, ixt_0, ixt_1, ixt_2, ixt_3, ixl_0, ixl_1, ixl_2, sl_f, sl_t, sl_s, len_l, len_f, len_t, len_s, isi_int_i, isi_int_b, isi_bool_b, isi_bool_i, isi_str_s, isi_str_i, isi_str_t, isi_tup_t, isi_tup_i, isi_tup_s, isi_int_s, isi_int_t, isi_o, isi_c_t, abs_i, int_i, max_i, min_i, all_m, tuple_l, str_o, mkTup_e, mkLst_e, app_e, put_l0, put_l1, put_l2, fld_0, fld_1, wipe_0, wipe_s, okS_un, okS_sh, okS_us, noOw_0, noOw_s, back_0, back_s, getD_0, getD_s, listS_s, strG_e, u_mm_are_great, u_mm_are_small, u_mm_is_integer, u_mm_is_number, u_mm_is_moment, u_mt_is_level_1, u_mt_is_level_2, u_mt_is_level_3, u_mm_is_level, u_mt_shared_factor_1, u_mt_shared_factor_2, u_mm_shared_factor, u_mt_is_more_1, u_mm_is_more, u_mt_is_headed_1, u_mt_is_headed_2, u_mt_is_headed_3, u_mm_is_headed, u_mt_overs_in_1, u_mt_overs_in_2, u_mt_overs_in_3, u_mm_overs_in, u_mm_Wish___init__, u_mm_Ratio___str__, u_mt_Ratio___init___1, u_mt_Ratio___init___2, u_mt_Ratio___init___3, u_mm_Ratio___init__, u_mm_more_of, u_mm_text_of_level, u_mm_text_of, u_mm_Wish___str__, u_mt_level_in_1, u_mt_level_in_2, u_mt_level_in_3, u_mm_level_in, u_mm_is_written, u_mt_ratio_in_1, u_mt_ratio_in_2, u_mt_ratio_in_3, u_mm_ratio_in, u_mt_more_in_1, u_mm_more_in, u_mt_form_in_1, u_mt_form_in_2, u_mm_form_in, u_mt_wish_in_1, u_mm_wish_in, u_mm_Wish_read, u_mt__law_bag_1, u_mt__law_bag_2, u_mt__law_bag_3, u_mm__law_bag, u_mm_Wish___eq__, u_mt__law_draw_1, u_mt__law_draw_2, u_mt__law_draw_3, u_mt__law_draw_4, u_mt__law_draw_5, u_mm__law_draw, u_mm__law_one, u_mt__law_level_1, u_mt__law_level_2, u_mm__law_level, u_mm__law_more, u_mt__law_plea_1, u_mt__law_plea_2, u_mt__law_plea_3, u_mt__law_plea_4, u_mm__law_plea, u_mt__law_cords_1, u_mt__law_cords_2, u_mt__law_cords_3, u_mm__law_cords, u_mt__law_letters_1, u_mt__law_letters_2, u_mm__law_letters, u_mt__law_words_1, u_mt__law_words_2, u_mt__law_words_3, u_mm__law_words, u_mt__law_shape_1, u_mt__law_shape_2, u_mt__law_shape_3, u_mm__law_shape, u_mm__law_level_text, u_mt__law_written_1, u_mt__law_written_2, u_mm__law_written, u_mt__law_right_1, u_mt__law_right_2, u_mt__law_right_3, u_mt__law_right_4, u_mt__law_right_5, u_mt__law_right_6, u_mt__law_right_7, u_mt__law_right_8, u_mt__law_right_9, u_mm__law_right, u_mt_law_1, u_mt_law_2, u_mt_law_3, u_mt_law_4, u_mm_law, jsi_non_int, jsi_non_str, jsi_non_tuple, jsi_bl_str, jsi_bl_tuple, jsi_lst_int, jsi_lst_str, jsi_lst_tuple, ltN1, e_isint, e_isint_non, e_isint_bl, e_isint_str, e_isint_tup, e_isint_lst, e_ratio, neE_0, neE_1, decide_true, decide_false, if_true, if_false, Bool.not_true, Bool.not_false, List.length_cons, List.length_nil, Int.cast_ofNat_Int, List.nil_append, List.cons_append, List.append_nil, and_self, and_true, true_and, and_false, false_and, List.length_map, Int.reduceToNat, Int.reducePow, Int.reduceSub, Int.reduceAdd, Int.reduceMul, Int.reduceNeg, $ls,*])
--#NEW
/-! ### wishes made -/
theorem e_wish_y {n w : Nat} {d : D} (h : pl n w d = true) (hn : n ≤ 40) (hw : w ≤ 100) (hz : wt d ≤ 6600) (g : GoodW d) : mkObj 5 F_Wish___init__ [d] = .ok (.ins 5 [d], false) := by
  obtain ⟨y, e, q⟩ := e_overs h hn hw hz
  rcases q with ⟨_, fs, rfl⟩ | ⟨q, _⟩
  · rw [obj_eq, o_Wish___init__]
    exists e
  · exact absurd g q
/-! ### wishes made and read -/
section
variable {l : Lv} {c : Mo} {p q : Pl} {m : Option Nat} {n w k : Nat}
theorem mmMomB (h : mmOk m) : momB (mmD m) = true := by
  cases m with
  | none => decide
  | some k =>
    have := h k rfl
    show momB (.int ((k : Nat) : Int)) = true
    rw [momB_int, decide_eq_true (by omega), decide_eq_true (by omega)]; rfl
theorem lowS_of {s : List Nat} (h : ∀ c ∈ s, 97 ≤ c ∧ c ≤ 122) : lowS s = true := List.all_eq_true.mpr fun c hc => by
  rw [decide_eq_true (h c hc).1, decide_eq_true (h c hc).2]; rfl
theorem lv_levB (h : LvOk l) : levB (lvD l) = true := by
  cases l with
  | fl => decide
  | le c =>
    show levB (.tup [.str lengthW, .str [c]]) = true
    rw [levB2]
    show (decide (lengthW = lengthW) && (decide (1 ≤ 1) && decide (1 ≤ 1) && lowS [c])) = true
    rw [lowS_of fun x hx => by rw [List.mem_singleton.mp hx]; exact h]; rfl
  | ho c m =>
    show levB (.tup [.str hookW, .str [c], mmD m]) = true
    rw [levB3, mmMomB h.2]
    have : uppS [c] = true := by
      show ((decide (65 ≤ c) && decide (c ≤ 90)) && true) = true
      rw [decide_eq_true h.1.1, decide_eq_true h.1.2]; rfl
    show (true && ((decide (hookW = hookW) && (decide (1 ≤ 1) && decide (1 ≤ 1) && uppS [c])) || _)) = true
    rw [this]; rfl
  | pa s m =>
    obtain ⟨h1, h2, h3⟩ := h.1
    show levB (.tup [.str partW, .str s, mmD m]) = true
    rw [levB3, mmMomB h.2]
    show (true && (_ || (decide (partW = partW) && (decide (2 ≤ s.length) && decide (s.length ≤ 8) && lowS s)))) = true
    rw [decide_eq_true h1, decide_eq_true h2, lowS_of h3]
    simp
theorem mo_morB (h : MoOk c) : morB (moD c) = true := by
  cases c with
  | it i => rfl
  | fr a b =>
    obtain ⟨_, h2, h3, _⟩ := mo_fr h
    show morB (.tup [.int a, .int (b : Nat)]) = true
    rw [morB2, decide_eq_true (by omega), decide_eq_true h3]; rfl
theorem pl_hdB (h : PlOk p) : hdB (plD p) = true := by
  cases p with
  | ov a b c =>
    show hdB (.tup [.str overW, lvD a, lvD b, moD c]) = true
    rw [hdB_over, lv_levB h.1, lv_levB h.2.1, mo_morB h.2.2]; rfl
  | ng x =>
    show hdB (.tup (.str notW :: [plD x])) = true
    rw [hdB_not]; rfl
  | tw i x y =>
    cases i with
    | true =>
      show hdB (.tup (.str ifW :: [plD x, plD y])) = true
      rw [hdB_if]; rfl
    | false =>
      show hdB (.tup (.str andW :: [plD x, plD y])) = true
      rw [hdB_and (.inl rfl)]; rfl
  | th x y z =>
    show hdB (.tup (.str orW :: [plD x, plD y, plD z])) = true
    rw [hdB_and (.inr rfl)]; rfl
theorem okW_s {r : Nat} {s : List Nat} {xs : List D} : okW (r + 1) (.tup (.str s :: xs)) = (hdB (.tup (.str s :: xs)) && (decide (s = overW) || xs.all (okW r))) := rfl
theorem ctW_s {r : Nat} {s : List Nat} {xs : List D} : ctW (r + 1) (.tup (.str s :: xs)) = if s = overW then 1 else (xs.map (ctW r)).sum := rfl
theorem pl_okW : ∀ (r : Nat) (p : Pl), PlOk p → dpP p ≤ r → okW r (plD p) = true ∧ ctW r (plD p) = ctP p
  | 0, p, _, h => by have := dp_pos (p := p); omega
  | r + 1, .ov a b c, h, _ => by
    have hh : hdB (.tup [.str overW, lvD a, lvD b, moD c]) = true := pl_hdB h
    constructor
    · show okW (r + 1) (.tup [.str overW, lvD a, lvD b, moD c]) = true
      rw [okW_s, hh]; rfl
    · rfl
  | r + 1, .ng x, h, hd => by
    have hh : hdB (.tup [.str notW, plD x]) = true := pl_hdB (p := .ng x) h
    obtain ⟨a1, a2⟩ := pl_okW r x h (by unfold dpP at hd; omega)
    constructor
    · show okW (r + 1) (.tup [.str notW, plD x]) = true
      rw [okW_s, hh, List.all_cons, a1]; rfl
    · show ctW (r + 1) (.tup [.str notW, plD x]) = ctP x
      rw [ctW_s, if_neg (by decide), List.map_cons, List.map_nil, List.sum_cons, a2]; rfl
  | r + 1, .tw i x y, h, hd => by
    have hh : hdB (.tup [.str (twW i), plD x, plD y]) = true := pl_hdB (p := .tw i x y) h
    have h' : PlOk x ∧ PlOk y := h
    obtain ⟨a1, a2⟩ := pl_okW r x h'.1 (by unfold dpP at hd; omega)
    obtain ⟨b1, b2⟩ := pl_okW r y h'.2 (by unfold dpP at hd; omega)
    constructor
    · show okW (r + 1) (.tup [.str (twW i), plD x, plD y]) = true
      rw [okW_s, hh, List.all_cons, List.all_cons, a1, b1]
      simp
    · show ctW (r + 1) (.tup [.str (twW i), plD x, plD y]) = ctP x + ctP y
      rw [ctW_s, if_neg (by cases i <;> decide), List.map_cons, List.map_cons, List.map_nil, List.sum_cons, List.sum_cons, a2, b2]; rfl
  | r + 1, .th x y z, h, hd => by
    have hh : hdB (.tup [.str orW, plD x, plD y, plD z]) = true := pl_hdB (p := .th x y z) h
    have h' : PlOk x ∧ PlOk y ∧ PlOk z := h
    obtain ⟨a1, a2⟩ := pl_okW r x h'.1 (by unfold dpP at hd; omega)
    obtain ⟨b1, b2⟩ := pl_okW r y h'.2.1 (by unfold dpP at hd; omega)
    obtain ⟨c1, c2⟩ := pl_okW r z h'.2.2 (by unfold dpP at hd; omega)
    constructor
    · show okW (r + 1) (.tup [.str orW, plD x, plD y, plD z]) = true
      rw [okW_s, hh, List.all_cons, List.all_cons, List.all_cons, a1, b1, c1]
      simp
    · show ctW (r + 1) (.tup [.str orW, plD x, plD y, plD z]) = ctP x + ctP y + ctP z
      rw [ctW_s, if_neg (by decide), List.map_cons, List.map_cons, List.map_cons, List.map_nil, List.sum_cons, List.sum_cons, List.sum_cons, a2, b2, c2, Nat.add_assoc]; rfl
/-- a wish as the law draws it -/
structure GoP (p : Pl) : Prop where
  ok : PlOk p
  dp : dpP p ≤ 3
  ct : ctP p ≤ 8
  sz : SzP 724 p
@[reducible] def wiD (p : Pl) : D := .ins 5 [plD p]
theorem GoP.good (h : GoP p) : GoodW (plD p) := by
  obtain ⟨a, b⟩ := pl_okW 5 p h.ok (by have := h.dp; omega)
  exact ⟨a, by rw [b]; exact h.ct⟩
theorem GoP.pl (h : GoP p) : pl 4 4 (plD p) = true := pl_mono (by have := h.dp; omega) (Nat.le_refl _) (plD_pl h.ok)
theorem GoP.dok (h : GoP p) : dok dep (plD p) = true := pl_dok (m := 40) (by omega) h.pl
theorem GoP.tsok (h : GoP p) : sok (plT p) = true := by
  have : ∀ p : Pl, PlOk p → sok (plT p) = true := fun p => by
    induction p with
    | ov a b c => intro h; unfold plT; exact sok_cons (by decide) (sok_app (by decide) (sok_cons (by decide) (sok_app (lv_sok h.1) (sok_cons (by decide) (sok_app (lv_sok h.2.1) (sok_cons (by decide) (sok_app (mo_sok h.2.2) (by decide))))))))
    | ng x ih => intro h; unfold plT; exact sok_cons (by decide) (sok_app (by decide) (sok_cons (by decide) (sok_app (ih h) (by decide))))
    | tw i x y ih1 ih2 =>
      intro h
      have h' : PlOk x ∧ PlOk y := h
      unfold plT; exact sok_cons (by decide) (sok_app (by cases i <;> decide) (sok_cons (by decide) (sok_app (ih1 h'.1) (sok_cons (by decide) (sok_app (ih2 h'.2) (by decide))))))
    | th x y z ih1 ih2 ih3 =>
      intro h
      have h' : PlOk x ∧ PlOk y ∧ PlOk z := h
      unfold plT; exact sok_cons (by decide) (sok_app (by decide) (sok_cons (by decide) (sok_app (ih1 h'.1) (sok_cons (by decide) (sok_app (ih2 h'.2.1) (sok_cons (by decide) (sok_app (ih3 h'.2.2) (by decide))))))))
  exact this p h.ok
theorem e_wish (h : GoP p) : mkObj 5 F_Wish___init__ [plD p] = .ok (wiD p, false) := e_wish_y h.pl (by omega) (by omega) (by have := h.sz.2; omega) h.good
theorem e_ovs (h : GoP p) : ∃ fs, F_overs_in [plD p] = .ok (.lst fs, true) := by
  obtain ⟨y, e, q⟩ := e_overs h.pl (by omega) (by omega) (by have := h.sz.2; omega)
  rcases q with ⟨_, fs, rfl⟩ | ⟨q, _⟩
  · exact ⟨fs, e⟩
  · exact absurd h.good q
theorem e_wst (h : GoP p) : F_Wish___str__ [wiD p] = .ok (.str (plT p), false) := by
  have e := e_tx3 h.ok h.dp (by have := h.sz.1; omega)
  have hs := h.sz.1
  rw [o_Wish___str__]
  exists e, fmt_s (show (plT p).length ≤ 100000 by omega)
theorem e_nst (h : GoP p) : F_nested [.str (plT p)] = .ok (plW p, false) := by
  show (if (plT p).length ≤ 2000 then R.ok (nestD (plT p), false) else .no) = _
  rw [if_pos (by have := h.sz.1; omega), nestD_pl h.ok]
theorem e_wread (h : GoP p) : F_wish_in [.str (plT p)] = .ok (wiD p, false) := by
  have hs := h.sz.1
  have e1 := e_nst h
  have e2 := e_fi3 h.ok h.dp
  obtain ⟨fs, e3⟩ := e_ovs h
  have e4 := e_tx3 h.ok h.dp (by omega)
  have e5 := e_wish h
  rw [o_wish_in]
  exists e1, e2, e3, e4, e5
theorem e_wrd (h : GoP p) : F_Wish_read [.str (plT p)] = .ok (wiD p, false) := by
  have e := e_wread h
  rw [o_Wish_read]
  exists e
theorem plD_tup (p : Pl) : ∃ ds, plD p = .tup ds := by cases p <;> exact ⟨_, rfl⟩
theorem e_weq (h : GoP p) (g : GoP q) : F_Wish___eq__ [wiD p, wiD q] = .ok (.bl (eqv (plD p) (plD q)), false) := by
  have e := eq_g (own := no2) h.dok g.dok
  rw [o_Wish___eq__]
  exists e
theorem e_weqt : F_Wish___eq__ [wiD p, plD p] = .ok (.bl false, false) := by
  obtain ⟨ds, e⟩ := plD_tup p
  rw [o_Wish___eq__]
  unfold wiD
  rw [e]
  exists bnd_ok
theorem cany_w : cany 5 (wiD p) (plD p) = true := by
  obtain ⟨ds, e⟩ := plD_tup p
  unfold wiD
  rw [e]; rfl
end

--#NEW
/-! ### letters -/
section
variable {γ : Type} {kk : Rv × D → R γ} {P : γ → Prop} {n : Nat} {bag : D} {m : Int}
theorem er_perm {α : Type} : ∀ (l : List α) (j : Nat) (h : j < l.length), (l[j] :: l.eraseIdx j).Perm l
  | x :: l, 0, _ => .refl _
  | x :: l, j + 1, h => by
    have := er_perm l j (by simpa using h)
    exact (List.Perm.swap ..).trans (this.cons x)
theorem er_map {α β : Type} (f : α → β) : ∀ (l : List α) (j : Nat), (l.map f).eraseIdx j = (l.eraseIdx j).map f
  | [], _ => rfl
  | x :: l, 0 => rfl
  | x :: l, j + 1 => by show f x :: (l.map f).eraseIdx j = f x :: (l.eraseIdx j).map f; rw [er_map f l j]
theorem wp_letters {pool : List Nat} (hp : pool.Nodup) (hl : pool.length ≤ 30) (h0 : 0 ≤ m) (hm : m ≤ pool.length) (hb : BagOk n bag) (hn : n < 2 ^ 50) (k : ∀ ys d', ys.Pairwise (· < ·) → (∀ c ∈ ys, c ∈ pool) → (ys.length : Int) = m → BagOk (n + 30) d' → Wn (kk ((.str ys, false), d')) P) : Wn (bnd (F__law_letters [.str pool, .int m] bag) kk) P := by
  rw [o__law_letters]
  exists rng_map
  refine wp_for (fun i ρ => ∃ bag left found s5, ρ = [.ow bag, .sh (.str pool), .sh (.int m), .ow (.lst (left.map fun c => D.str [c])), .ow (.lst (found.map fun c => D.str [c])), s5] ∧ BagOk (n + i) bag ∧ (found ++ left).Perm pool ∧ found.length = i) ⟨bag, pool, [], _, rfl, hb, .refl _, rfl⟩ (fun i x ρ hx z => ?_) fun ρ z => ?_
  · obtain ⟨bag, left, found, s5, rfl, hb, pm, fl⟩ := z
    have hi := (List.getElem?_eq_some_iff.mp hx).1
    rw [List.length_range] at hi
    have ll := pm.length_eq
    rw [List.length_append] at ll
    exists bnd_ok
    refine wp_draw hb (by omega) (by omega) (by omega) fun j d1 j0 j1 hb1 => ?_
    have pp := pop_at (xs := left.map fun c => D.str [c]) (i := j) j0 (by rw [List.length_map]; exact j1) (by rw [List.length_map]; omega)
    rw [er_map, List.getElem_map] at pp
    exists pp
    have jl : j.toNat < left.length := by omega
    refine ⟨d1, left.eraseIdx j.toNat, found ++ [left[j.toNat]'jl], _, by rw [List.map_append]; rfl, hb1.mono (by omega), ?_, by rw [List.length_append, fl]; rfl⟩
    rw [List.append_assoc]
    exact ((er_perm left j.toNat jl).append_left found).trans pm
  · obtain ⟨bag, left, found, s5, rfl, hb, pm, fl⟩ := z
    rw [List.length_range] at fl hb
    have nd : found.Nodup := by
      have := pm.nodup_iff.mpr hp
      exact (List.nodup_append.mp this).1
    have ll := pm.length_eq
    rw [List.length_append] at ll
    obtain ⟨ys, e1, e2, e3, e4⟩ := e_sortN nd (by omega)
    exists e1, e_join (show ys.length ≤ 1000 by omega)
    exact k ys bag e3 (fun c hc => pm.mem_iff.mp (List.mem_append.mpr (.inl ((e2 c).mp hc)))) (by omega) (hb.mono (by omega))
end

--#NEW
/-! ### words -/
section
variable {γ : Type} {kk : Rv × D → R γ} {P : γ → Prop} {n : Nat} {bag : D} {m : Int}
@[reducible] def pool19 : List Nat := [97, 98, 99, 100, 101, 104, 107, 108, 109, 110, 111, 112, 114, 115, 116, 117, 119, 121, 122]
@[reducible] def ends7 : List Nat := [102, 103, 105, 106, 113, 118, 120]
theorem low_of {w : Wd} (h : ∀ c ∈ w, 97 ≤ c ∧ c ≤ 122) : lowS w = true := by
  unfold lowS
  rw [List.all_eq_true]
  intro c hc
  rw [decide_eq_true (h c hc).1, decide_eq_true (h c hc).2]; rfl
theorem pool_low : ∀ c ∈ pool19, 97 ≤ c ∧ c ≤ 122 := by decide
theorem ends_low : ∀ c ∈ ends7, 97 ≤ c ∧ c ≤ 122 := by decide
theorem ends_out : ∀ c ∈ ends7, c ∉ pool19 := by decide
theorem ends_nd : ends7.Nodup := by decide
theorem in_ws {ws : List Wd} {w : Wd} (h1 : lowS w = true) (h2 : ∀ x ∈ ws, lowS x = true) : inD (.str w) (.lst (ws.map D.str)) = .ok (.bl (decide (w ∈ ws)), false) := by
  have d1 : dok dep (.str w) = true := by show dok 40 (.str w) = true; simp only [dok, sok_low h1]
  have d2 : doks dep (ws.map D.str) = true := doks_all fun x hx => by
    obtain ⟨p, hp, rfl⟩ := List.mem_map.mp hx
    show dok 40 (.str p) = true
    simp only [dok, sok_low (h2 p hp)]
  rw [in_l (by rw [d1, d2]; rfl), eqv_strs]
/-- words so far -/
structure WsOk (i : Nat) (ws : List Wd) : Prop where
  nd : ws.Nodup
  ln : ws.length = i
  wl : ∀ w ∈ ws, 2 ≤ w.length ∧ w.length ≤ 8 ∧ lowS w = true
  kd : ∀ w ∈ ws, (∀ c ∈ w, c ∈ pool19) ∨ ∃ t u c, t < i ∧ ends7[t]? = some c ∧ w = u ++ [c]
theorem WsOk.step {i : Nat} {ws : List Wd} {w : Wd} (h : WsOk i ws) (h1 : w ∉ ws) (h2 : 2 ≤ w.length ∧ w.length ≤ 8 ∧ lowS w = true) (h3 : (∀ c ∈ w, c ∈ pool19) ∨ ∃ t u c, t < i + 1 ∧ ends7[t]? = some c ∧ w = u ++ [c]) : WsOk (i + 1) (ws ++ [w]) := by
  refine ⟨?_, by rw [List.length_append, h.ln]; rfl, fun x hx => ?_, fun x hx => ?_⟩
  · rw [List.nodup_append]
    refine ⟨h.nd, by simp, fun a ha b hb e => h1 ?_⟩
    rw [List.mem_singleton.mp hb] at e
    exact e ▸ ha
  · rcases List.mem_append.mp hx with hx | hx
    · exact h.wl x hx
    · rw [List.mem_singleton.mp hx]; exact h2
  · rcases List.mem_append.mp hx with hx | hx
    · rcases h.kd x hx with z | ⟨t, u, c, z1, z2, z3⟩
      · exact .inl z
      · exact .inr ⟨t, u, c, by omega, z2, z3⟩
    · rw [List.mem_singleton.mp hx]; exact h3
theorem WsOk.fresh {i : Nat} {ws : List Wd} {u : Wd} {c : Nat} (h : WsOk i ws) (hc : ends7[i]? = some c) : u ++ [c] ∉ ws := fun z => by
  have mc := List.mem_of_getElem? hc
  rcases h.kd _ z with q | ⟨t, v, e, q1, q2, q3⟩
  · exact ends_out c mc (q c (by simp))
  · have := List.append_inj_right' q3 rfl
    injection this with this
    subst this
    have hi := (List.getElem?_eq_some_iff.mp hc)
    have ht := (List.getElem?_eq_some_iff.mp q2)
    obtain ⟨hi, ei⟩ := hi
    obtain ⟨ht, et⟩ := ht
    have e1 := List.Nodup.idxOf_getElem ends_nd i hi
    have e2 := List.Nodup.idxOf_getElem ends_nd t ht
    rw [ei] at e1
    rw [et] at e2
    omega
theorem wp_words (h0 : 1 ≤ m) (hm : m ≤ 6) (hb : BagOk n bag) (hn : n < 2 ^ 50) (k : ∀ ws d', PsOk ws → (ws.length : Int) = m → BagOk (n + 60) d' → Wn (kk ((psD ws, false), d')) P) : Wn (bnd (F__law_words [.int m] bag) kk) P := by
  rw [o__law_words]
  exists rng_map
  refine wp_for (fun i ρ => ∃ bag ws s3 s4, ρ = [.ow bag, .sh (.int m), .ow (.lst (ws.map D.str)), s3, s4, .un] ∧ BagOk (n + 10 * i) bag ∧ WsOk i ws) ⟨bag, [], _, _, rfl, hb, ⟨by simp, rfl, fun w hw => (by cases hw), fun w hw => (by cases hw)⟩⟩ (fun i x ρ hx z => ?_) fun ρ z => ?_
  · obtain ⟨bag, ws, s3, s4, rfl, hb, hw⟩ := z
    obtain ⟨hi, ex⟩ := List.getElem?_eq_some_iff.mp hx
    rw [List.length_range] at hi
    rw [List.getElem_range] at ex
    subst ex
    have wl := hw.ln
    exists bnd_ok
    refine wp_draw hb (by omega) (by decide) (by decide) fun r d1 r0 r1 hb1 => ?_
    exists rng_map
    refine wp_lc (fun j acc ρ => ∃ bag cs s5, acc = cs.map (fun c => D.str [c]) ∧ cs.length = j ∧ (∀ c ∈ cs, c ∈ pool19) ∧ ρ = [.ow bag, .sh (.int m), .ow (.lst (ws.map D.str)), .sh (.int i), s4, s5] ∧ okS (some s5) = true ∧ BagOk (n + 10 * i + 1 + j) bag) rfl (by rw [List.length_range]; omega) ⟨d1, [], _, rfl, rfl, fun c hc => (by cases hc), rfl, rfl, hb1⟩ (fun j y acc ρ hy z => ?_) fun acc ρ z => ?_
    · obtain ⟨bag, cs, s5, rfl, cl, cp, rfl, ok, hb⟩ := z
      have hj := (List.getElem?_eq_some_iff.mp hy).1
      rw [List.length_range] at hj
      exists bnd_ok
      refine wp_ones hb (by omega) (by decide) (by decide) fun c d2 hc hb2 => ?_
      exists bnd_ok
      refine ⟨d2, cs ++ [c], _, by rw [List.map_append]; rfl, by rw [List.length_append, cl]; rfl, fun e he => ?_, rfl, rfl, hb2.mono (by omega)⟩
      rcases List.mem_append.mp he with he | he
      · exact cp e he
      · rw [List.mem_singleton.mp he]; exact hc
    · obtain ⟨bag, cs, s5, rfl, cl, cp, rfl, ok, hb⟩ := z
      rw [List.length_range] at cl hb
      have lo : lowS cs = true := low_of fun c hc => pool_low c (cp c hc)
      have cl1 : cs.length ≤ 1000 := by omega
      exists e_join cl1, in_ws lo fun x hx => (hw.wl x hx).2.2
      refine wp_d (fun q => ?_) fun q => ?_
      · have ct : cut cs none (some 7) = cs.take 7 := cut_take cs 7
        have hi7 : i < ends7.length := by show i < 7; omega
        have ie := ix_s (a := ends7) (i := (i : Int)) (by decide) (by omega) (by omega)
        have eg : ends7[i]? = some (ends7[((i : Int)).toNat]'(by omega)) := by rw [List.getElem?_eq_getElem hi7]; rfl
        generalize ends7[((i : Int)).toNat]'(by omega) = e at ie eg
        have tl : (cs.take 7).length = min 7 cs.length := List.length_take ..
        exists ct, ie
        have me := List.mem_of_getElem? eg
        refine ⟨bag, ws ++ [cs.take 7 ++ [e]], _, _, by rw [List.map_append]; rfl, hb.mono (by omega), hw.step (hw.fresh eg) ⟨?_, ?_, low_of fun c hc => ?_⟩ (.inr ⟨i, _, e, by omega, eg, rfl⟩)⟩
        · rw [List.length_append, tl]; simp; omega
        · rw [List.length_append, tl]; simp; omega
        · rcases List.mem_append.mp hc with hc | hc
          · exact pool_low c (cp c (List.mem_of_mem_take hc))
          · rw [List.mem_singleton.mp hc]; exact ends_low e me
      · exists bnd_ok
        exact ⟨bag, ws ++ [cs], _, _, by rw [List.map_append]; rfl, hb.mono (by omega), hw.step q ⟨by omega, by omega, lo⟩ (.inl cp)⟩
  · obtain ⟨bag, ws, s3, s4, rfl, hb, hw⟩ := z
    rw [List.length_range] at hb hw
    have wl := hw.ln
    exists bnd_ok
    exact k ws bag ⟨hw.nd, by omega, by omega, hw.wl⟩ (by omega) (hb.mono (by omega))
end

--#NEW
/-! ### ties -/
section
variable {γ : Type} {kk : Rv × D → R γ} {P : γ → Prop} {n : Nat} {bag : D} {ps : List Wd}
@[reducible] def ix (ps : List Wd) (a : Wd) : Nat := ps.idxOf a
/-- ties so far: of pairs ahead of the place k, j -/
structure CdOk (ps : List Wd) (k j : Nat) (ts : List Tie) : Prop where
  m1 : ∀ t ∈ ts, t.1 ∈ ps ∧ t.2.1 ∈ ps
  b : ∀ t ∈ ts, 0 ≤ t.2.2 ∧ t.2.2 ≤ 20
  ne : ∀ t ∈ ts, ix ps t.1 ≠ ix ps t.2.1
  bf : ∀ t ∈ ts, max (ix ps t.1) (ix ps t.2.1) < k ∨ (max (ix ps t.1) (ix ps t.2.1) = k ∧ min (ix ps t.1) (ix ps t.2.1) < j)
  uq : ts.Pairwise fun s t => ¬ (s.1 = t.1 ∧ s.2.1 = t.2.1) ∧ ¬ (s.1 = t.2.1 ∧ s.2.1 = t.1)
  ln : ts.length ≤ 10
theorem CdOk.mono {k j k' j' : Nat} {ts : List Tie} (h : CdOk ps k j ts) (l : k < k' ∨ (k = k' ∧ j ≤ j')) : CdOk ps k' j' ts :=
  ⟨h.m1, h.b, h.ne, fun t ht => by have := h.bf t ht; omega, h.uq, h.ln⟩
theorem CdOk.step {k j : Nat} {ts : List Tie} {t : Tie} (h : CdOk ps k j ts) (hl : ts.length < 10) (h1 : t.1 ∈ ps ∧ t.2.1 ∈ ps) (h2 : 0 ≤ t.2.2 ∧ t.2.2 ≤ 20) (hj : j < k) (h3 : (ix ps t.1 = j ∧ ix ps t.2.1 = k) ∨ (ix ps t.1 = k ∧ ix ps t.2.1 = j)) : CdOk ps k (j + 1) (ts ++ [t]) := by
  have al : ∀ {Q : Tie → Prop}, (∀ s ∈ ts, Q s) → Q t → ∀ s ∈ ts ++ [t], Q s := fun q1 q2 s hs => by
    rcases List.mem_append.mp hs with hs | hs
    · exact q1 s hs
    · rw [List.mem_singleton.mp hs]; exact q2
  refine ⟨al h.m1 h1, al h.b h2, al h.ne (by omega), al (fun s hs => by have := h.bf s hs; omega) (by omega), ?_, by rw [List.length_append]; simp; omega⟩
  rw [List.pairwise_append]
  refine ⟨h.uq, by simp, fun s hs u hu => ?_⟩
  rw [List.mem_singleton.mp hu]
  have bf := h.bf s hs
  refine ⟨fun z => ?_, fun z => ?_⟩
  · rw [z.1, z.2] at bf; omega
  · rw [z.1, z.2] at bf; omega
theorem ixps {i : Nat} (hi : i < ps.length) : ixD (psD ps) (.int (i : Int)) = .ok (.str ps[i], false) := by
  have := ix_t (xs := ps.map D.str) (i := (i : Int)) (by omega) (by rw [List.length_map]; omega)
  rw [List.getElem_map] at this
  exact this
theorem wp_cords (hp : PsOk ps) (hb : BagOk n bag) (hn : n < 2 ^ 50) (k : ∀ ts d', TsOk ps ts → BagOk (n + 108) d' → Wn (kk ((tsD ts, false), d')) P) : Wn (bnd (F__law_cords [psD ps] bag) kk) P := by
  have l2 := hp.l2
  rw [o__law_cords]
  exists rng_map
  refine wp_for (fun i ρ => ∃ bag ts s3 s4 s5, ρ = [.ow bag, .sh (psD ps), .ow (.lst (ts.map tieD)), s3, s4, s5] ∧ BagOk (n + 18 * i) bag ∧ CdOk ps i 0 ts) ⟨bag, [], _, _, _, rfl, hb, ⟨fun t h => (by cases h), fun t h => (by cases h), fun t h => (by cases h), fun t h => (by cases h), .nil, by simp⟩⟩ (fun i x ρ hx z => ?_) fun ρ z => ?_
  · obtain ⟨bag, ts, s3, s4, s5, rfl, hb, hc⟩ := z
    obtain ⟨hi, ex⟩ := List.getElem?_eq_some_iff.mp hx
    rw [List.length_range] at hi
    rw [List.getElem_range] at ex
    subst ex
    refine wn_k ?_
    exists rng_map
    refine wp_for (fun j ρ => ∃ bag ts s4 s5, ρ = [.ow bag, .sh (psD ps), .ow (.lst (ts.map tieD)), .sh (.int i), s4, s5] ∧ BagOk (n + 18 * i + 3 * j) bag ∧ CdOk ps i j ts) ⟨bag, ts, _, _, rfl, hb, hc⟩ (fun j y ρ hy z => ?_) fun ρ z => ?_
    · obtain ⟨bag, ts, s4, s5, rfl, hb, hc⟩ := z
      obtain ⟨hj, ey⟩ := List.getElem?_eq_some_iff.mp hy
      rw [List.length_range] at hj
      rw [List.getElem_range] at ey
      subst ey
      have tl := hc.ln
      have ei := ixps hi
      have ej := ixps (ps := ps) (i := j) (by omega)
      have xi := List.Nodup.idxOf_getElem hp.nd i hi
      have xj := List.Nodup.idxOf_getElem hp.nd j (by omega)
      have mi : ps[i] ∈ ps := List.getElem_mem _
      have mj : ps[j] ∈ ps := List.getElem_mem _
      refine wn_k ?_
      exists bnd_ok
      refine wp_draw hb (by omega) (by decide) (by decide) fun x d1 x0 x1 hb1 => ?_
      by_cases q1 : x < 3
      · by_cases q2 : ts.length < 10
        · exists bnd_ok
          refine wp_draw hb1 (by omega) (by decide) (by decide) fun y d2 y0 y1 hb2 => ?_
          by_cases q3 : y = 0
          · exists ei, ej
            refine wp_one hb2 (by omega) (by simp) (by simp) fun r d3 hr hb3 => ?_
            have : ∃ v : Int, r = .int v ∧ 0 ≤ v ∧ v ≤ 20 := by
              simp only [List.mem_cons, List.not_mem_nil, or_false] at hr
              rcases hr with rfl | rfl | rfl | rfl | rfl | rfl | rfl <;> exact ⟨_, rfl, by omega, by omega⟩
            obtain ⟨v, rfl, v1, v2⟩ := this
            exists bnd_ok
            exact ⟨d3, ts ++ [(ps[j], ps[i], v)], _, _, by rw [List.map_append]; rfl, hb3.mono (by omega), hc.step q2 ⟨mj, mi⟩ ⟨v1, v2⟩ hj (.inl ⟨xj, xi⟩)⟩
          · exists ei, ej
            refine wp_one hb2 (by omega) (by simp) (by simp) fun r d3 hr hb3 => ?_
            have : ∃ v : Int, r = .int v ∧ 0 ≤ v ∧ v ≤ 20 := by
              simp only [List.mem_cons, List.not_mem_nil, or_false] at hr
              rcases hr with rfl | rfl | rfl | rfl | rfl | rfl | rfl <;> exact ⟨_, rfl, by omega, by omega⟩
            obtain ⟨v, rfl, v1, v2⟩ := this
            exists bnd_ok
            exact ⟨d3, ts ++ [(ps[i], ps[j], v)], _, _, by rw [List.map_append]; rfl, hb3.mono (by omega), hc.step q2 ⟨mi, mj⟩ ⟨v1, v2⟩ hj (.inr ⟨xi, xj⟩)⟩
        · exists bnd_ok
          exact ⟨d1, ts, _, _, rfl, hb1.mono (by omega), hc.mono (by omega)⟩
      · exists bnd_ok
        exact ⟨d1, ts, _, _, rfl, hb1.mono (by omega), hc.mono (by omega)⟩
    · obtain ⟨bag, ts, s4, s5, rfl, hb, hc⟩ := z
      rw [List.length_range] at hb hc
      exists bnd_ok
      exact ⟨bag, ts, _, _, _, rfl, hb.mono (by omega), hc.mono (by omega)⟩
  · obtain ⟨bag, ts, s3, s4, s5, rfl, hb, hc⟩ := z
    rw [List.length_range] at hb hc
    exists bnd_ok
    exact k ts bag ⟨⟨hp.nd, fun t ht => (hc.m1 t ht).1, fun t ht => (hc.m1 t ht).2, fun t ht => (hc.b t ht).1⟩, fun t ht e => hc.ne t ht (by rw [e]), hc.uq, fun t ht => by have := hc.b t ht; omega, hc.ln⟩ (hb.mono (by omega))
end

--#NEW
/-! ### shapes -/
section
variable {γ : Type} {kk : Rv × D → R γ} {P : γ → Prop} {n : Nat} {bag : D}
theorem wp_shape (hb : BagOk n bag) (hn : n < 2 ^ 40) (k : ∀ ps ts hk ss d', PuOk ps ts hk ss → BagOk (n + 500) d' → Wn (kk ((shD ps ts hk ss, false), d')) P) : Wn (bnd (F__law_shape [] bag) kk) P := by
  rw [o__law_shape]
  exists bnd_ok
  refine wp_draw hb (by omega) (by decide) (by decide) fun x1 d1 p1 p2 hb1 => ?_
  exists bnd_ok
  refine wp_words (by omega) (by omega) hb1 (by omega) fun ps d2 hp _ hb2 => ?_
  exists bnd_ok
  refine wp_draw hb2 (by omega) (by decide) (by decide) fun x2 d3 p3 p4 hb3 => ?_
  exists bnd_ok
  refine wp_letters (by decide) (by decide) (by omega) (by simp only [List.length_cons, List.length_nil]; omega) hb3 (by omega) fun hk d4 hpw hmem hlen hb4 => ?_
  exists bnd_ok
  refine wp_draw hb4 (by omega) (by decide) (by decide) fun x3 d5 p5 p6 hb5 => ?_
  exists bnd_ok
  refine wp_letters (by decide) (by decide) (by omega) (by simp only [List.length_cons, List.length_nil]; omega) hb5 (by omega) fun cs d6 cpw cmem clen hb6 => ?_
  have hP : HkOk hk := ⟨by omega, by omega, fun c hc => (by decide : ∀ c ∈ ([65, 68, 70, 72, 75, 77, 80, 82, 83, 84, 87] : List Nat), 65 ≤ c ∧ c ≤ 90) c (hmem c hc), hpw⟩
  exists bnd_ok
  refine wp_lc (fun i acc ρ => ∃ bag ss s5, acc = ss.map sgD ∧ nmS ss = cs.take i ∧ (∀ s ∈ ss, s.2.1 ∈ hk ∧ s.2.2 ∈ ps) ∧ ρ = [.ow bag, .sh (psD ps), .sh (.str hk), .sh (.str cs), .un, s5] ∧ okS (some s5) = true ∧ BagOk (n + 150 + 2 * i) bag) rfl (by omega) ⟨d6, [], _, rfl, rfl, fun s hs => (by cases hs), rfl, rfl, hb6.mono (by omega)⟩ (fun i c acc ρ hc z => ?_) fun acc ρ z => ?_
  · obtain ⟨bag, ss, s5, rfl, hn1, hs, rfl, ok, hb⟩ := z
    have hi := (List.getElem?_eq_some_iff.mp hc).1
    have h1 := hP.l1
    have h2 := hP.l2
    have h3 := hp.l1
    have h4 := hp.l2
    exists bnd_ok
    refine wp_ones hb (by omega) (by omega) (by omega) fun e d7 he hb7 => ?_
    exists bnd_ok
    refine wp_onet hb7 (by omega) (by rw [List.length_map]; omega) (by rw [List.length_map]; omega) fun x d8 hx hb8 => ?_
    obtain ⟨w, hw, rfl⟩ := List.mem_map.mp hx
    exists bnd_ok
    refine ⟨d8, ss ++ [(c, e, w)], _, by rw [List.map_append]; rfl, ?_, fun s hs' => ?_, rfl, rfl, hb8.mono (by omega)⟩
    · rw [nmS, List.map_append, List.take_add_one, hc, ← hn1]; rfl
    · rcases List.mem_append.mp hs' with hs' | hs'
      · exact hs s hs'
      · rw [List.mem_singleton.mp hs']; exact ⟨he, hw⟩
  · obtain ⟨bag, ss, s5, rfl, hn1, hs, rfl, ok, hb⟩ := z
    rw [List.take_length] at hn1
    have sl : ss.length = cs.length := by rw [← hn1, List.length_map]
    have hS : SsOk ps hk ss := ⟨by omega, by omega, fun s h => (by decide : ∀ c ∈ ([97, 98, 99, 101, 102, 103, 109, 110, 120, 121, 122] : List Nat), 97 ≤ c ∧ c ≤ 122) s.1 (cmem s.1 (by rw [← hn1]; exact List.mem_map.mpr ⟨s, h, rfl⟩)), fun s h => (hs s h).1, fun s h => (hs s h).2, by rw [← hn1, nmS, List.pairwise_map] at cpw; exact cpw⟩
    exists bnd_ok
    refine wp_cords hp hb (by omega) fun ts d9 hT hb9 => ?_
    exists bnd_ok
    exact k ps ts hk ss d9 ⟨hp, hT, hP, hS⟩ (hb9.mono (by omega))
end

--#NEW
/-! ### wishes drawn, each with its text -/
theorem it_ok {i : Int} (h : -20 ≤ i) (h2 : i ≤ 40) : MoOk (.it i) :=
  List.mem_append_left _ (List.mem_map.mpr ⟨(i + 20).toNat, List.mem_range.mpr (by omega), by show Mo.it _ = _; congr 1; omega⟩)
/-- at most so many "over" -/
def bR (room : Int) : Nat := if room ≤ 0 then 1 else if room = 1 then 3 else 6
section
variable {γ : Type} {kk : Rv × D → R γ} {P : γ → Prop} {n : Nat} {bag : D} {ps : List Wd} {ts : List Tie} {hk : List Nat} {ss : List Sg}
theorem wp_levelP (hP : PuOk ps ts hk ss) (hb : BagOk n bag) (hn : n < 2 ^ 50) (k : ∀ l d', LvOk l → BagOk (n + 4) d' → Wn (kk ((lvD l, false), d')) P) : Wn (bnd (F__law_level [shD ps ts hk ss, .int 6] bag) kk) P := by
  have p1 := hP.p.l1
  have p2 := hP.p.l2
  have k1 := hP.h.l1
  have k2 := hP.h.l2
  have s1 := hP.s.l1
  have s2 := hP.s.l2
  rw [o__law_level]
  exists bnd_ok
  refine wp_draw hb (by omega) (by omega) (by omega) fun way d1 w1 w2 hb1 => ?_
  exists bnd_ok
  refine wp_draw hb1 (by omega) (by omega) (by omega) fun t d2 t1 t2 hb2 => ?_
  exists bnd_ok
  refine wp_one hb2 (by omega) (by simp) (by simp) fun when d3 hw hb3 => ?_
  have pw : ∃ m, when = mmD m ∧ mmOk m := by
    simp only [List.mem_cons, List.not_mem_nil, or_false] at hw
    rcases hw with rfl | rfl | rfl | rfl
    · exact ⟨some 0, rfl, fun k hk => by cases hk; omega⟩
    · exact ⟨some 6, rfl, fun k hk => by cases hk; omega⟩
    · refine ⟨some t.toNat, ?_, fun k hk => by cases hk; omega⟩
      show D.int t = D.int ((t.toNat : Nat) : Int)
      rw [Int.toNat_of_nonneg t1]
    · exact ⟨none, rfl, fun k hk => by cases hk⟩
  clear hw
  obtain ⟨m, rfl, hm⟩ := pw
  by_cases q1 : way < 4
  · exists bnd_ok
    refine wp_onet hb3 (by omega) (by rw [List.length_map]; omega) (by rw [List.length_map]; omega) fun x d4 hx hb4 => ?_
    obtain ⟨wd, hwd, rfl⟩ := List.mem_map.mp hx
    have hl := hP.p.wl wd hwd
    exists bnd_ok
    refine k (.pa wd m) _ ⟨⟨hl.1, hl.2.1, fun c hc => ?_⟩, hm⟩ hb4
    have := List.all_eq_true.mp hl.2.2 c hc
    rw [Bool.and_eq_true, decide_eq_true_eq, decide_eq_true_eq] at this
    exact this
  · by_cases q2 : way < 6
    · exists bnd_ok
      refine wp_ones hb3 (by omega) (by omega) (by omega) fun x d4 hx hb4 => ?_
      have hu := hP.h.up x hx
      exists bnd_ok
      exact k (.ho x m) _ ⟨hu, hm⟩ hb4
    · by_cases q3 : way = 6
      · exists bnd_ok
        refine wp_onet hb3 (by omega) (by rw [List.length_map]; omega) (by rw [List.length_map]; omega) fun x d4 hx hb4 => ?_
        obtain ⟨s, hs, rfl⟩ := List.mem_map.mp hx
        have hu := hP.s.nm s hs
        exists bnd_ok
        exact k (.le s.1) _ hu hb4
      · exists bnd_ok
        exact k .fl _ trivial (hb3.mono (by omega))
theorem wp_moreP (hb : BagOk n bag) (hn : n < 2 ^ 50) (k : ∀ c d', MoOk c → BagOk (n + 2) d' → Wn (kk ((moD c, false), d')) P) : Wn (bnd (F__law_more [] bag) kk) P := by
  rw [o__law_more]
  exists bnd_ok
  refine wp_draw hb (by omega) (by omega) (by omega) fun t d1 t1 t2 hb1 => ?_
  exists bnd_ok
  refine wp_one hb1 (by omega) (by simp) (by simp) fun x d2 hx hb2 => ?_
  exists bnd_ok
  have : ∃ c, x = moD c ∧ MoOk c := by
    simp only [List.mem_cons, List.not_mem_nil, or_false] at hx
    rcases hx with rfl | rfl | rfl | rfl | rfl | rfl | rfl | rfl | rfl | rfl
    · exact ⟨.it 0, rfl, it_ok (by omega) (by omega)⟩
    · exact ⟨.it 0, rfl, it_ok (by omega) (by omega)⟩
    · exact ⟨.it 3, rfl, it_ok (by omega) (by omega)⟩
    · exact ⟨.it (-4), rfl, it_ok (by omega) (by omega)⟩
    · exact ⟨.it 12, rfl, it_ok (by omega) (by omega)⟩
    · exact ⟨.fr 1 2, rfl, List.mem_append_right _ (by decide)⟩
    · exact ⟨.fr (-7) 3, rfl, List.mem_append_right _ (by decide)⟩
    · exact ⟨.fr 5 6, rfl, List.mem_append_right _ (by decide)⟩
    · exact ⟨.it (-20), rfl, it_ok (by omega) (by omega)⟩
    · exact ⟨.it t, rfl, it_ok (by omega) (by omega)⟩
  obtain ⟨c, rfl, hc⟩ := this
  exact k c _ hc hb2
def PleaP (F : FnR) (sh : D) (rm : Int) (m j N : Nat) : Prop := ∀ {γ : Type} (kk : Rv × D → R γ) (P : γ → Prop) (n : Nat) (bag : D) (room : Int), 0 ≤ room → room ≤ rm → n ≤ N → BagOk n bag →
  (∀ p d', PlOk p → (dpP p : Int) ≤ room + 1 → ctP p ≤ bR room → SzP m p → BagOk (n + j) d' → Wn (kk ((plD p, false), d')) P) → Wn (bnd (F [sh, .int 6, .int room] bag) kk) P
theorem SzP.mono {m m' : Nat} {p : Pl} (h : SzP m p) (g : m ≤ m') : SzP m' p := ⟨Nat.le_trans h.1 g, Nat.le_trans h.2 g⟩
theorem plea_stepP {Frec : FnR} {rm : Int} {m j N : Nat} (hP : PuOk ps ts hk ss) (h : PleaP Frec (shD ps ts hk ss) rm m j N) (hm : 22 ≤ m) (hj : j ≤ 1000) {room : Int} (r0 : 0 ≤ room) (r1 : room ≤ rm + 1) (r2 : room ≤ 2) (hN : N < 2 ^ 48) (hn : n + (3 * j + 11) ≤ N) (hb : BagOk n bag)
    (k : ∀ p d', PlOk p → (dpP p : Int) ≤ room + 1 → ctP p ≤ bR room → SzP (3 * m + 10) p → BagOk (n + (3 * j + 11)) d' → Wn (kk ((plD p, false), d')) P) :
    Wn (bnd (bnd ((mm__law_plea Frec) [.ow bag, .sh (shD ps ts hk ss), .sh (.int 6), .sh (.int room), .un, .un]) fun r => bnd (endOf r.1) fun t => bnd (ownG r.2[0]?) fun d' => .ok (t, d')) kk) P := by
  have b1 : 1 ≤ bR room := by unfold bR; split <;> (try split) <;> omega
  have fin : ∀ (a b : Lv) (c : Mo) (d4 : D), LvOk a → LvOk b → MoOk c → BagOk (n + 11) d4 → Wn (kk ((plD (.ov a b c), false), d4)) P := fun a b c d4 ha hb hc hd =>
    k (.ov a b c) d4 ⟨ha, hb, hc⟩ (by show ((1 : Nat) : Int) ≤ _; omega) b1 ((sz_ov ⟨ha, hb, hc⟩).mono (by omega)) (hd.mono (by omega))
  have over : ∀ (w : Int) (n1 : Nat) (d1 : D), w < 2 → n1 ≤ n + 1 → BagOk n1 d1 → Wn (bnd (bnd (mt__law_plea_4 Frec [.ow d1, .sh (shD ps ts hk ss), .sh (.int 6), .sh (.int room), .sh (.int w), .un]) fun r => bnd (endOf r.1) fun t => bnd (ownG r.2[0]?) fun d' => .ok (t, d')) kk) P := fun w n1 d1 hw hn1 hb1 => by
    exists bnd_ok
    refine wp_levelP hP hb1 (by omega) fun a d2 pa hb2 => ?_
    exists bnd_ok
    refine wp_levelP hP hb2 (by omega) fun b d3 pb hb3 => ?_
    exists bnd_ok
    refine wp_moreP hb3 (by omega) fun c d4 pc hb4 => ?_
    exists bnd_ok
    exact fin a b c d4 pa pb pc (hb4.mono (by omega))
  by_cases q0 : 0 < room
  · have c1 : ∀ x : Pl, ctP x ≤ bR (room - 1) → ctP x ≤ bR room := fun x hx => by
      have : room = 1 ∨ room = 2 := by omega
      rcases this with rfl | rfl
      · exact Nat.le_trans hx (by decide)
      · exact Nat.le_trans hx (by decide)
    have c2 : ∀ x y : Pl, ctP x ≤ bR (room - 1) → ctP y ≤ bR (room - 1) → ctP x + ctP y ≤ bR room := fun x y hx hy => by
      have : room = 1 ∨ room = 2 := by omega
      rcases this with rfl | rfl
      · exact Nat.le_trans (Nat.add_le_add hx hy) (by decide)
      · exact Nat.le_trans (Nat.add_le_add hx hy) (by decide)
    have c3 : ∀ x y z : Pl, ctP x ≤ bR (room - 1) → ctP y ≤ bR 0 → ctP z ≤ bR 0 → ctP x + ctP y + ctP z ≤ bR room := fun x y z hx hy hz => by
      have : room = 1 ∨ room = 2 := by omega
      rcases this with rfl | rfl
      · exact Nat.le_trans (Nat.add_le_add (Nat.add_le_add hx hy) hz) (by decide)
      · exact Nat.le_trans (Nat.add_le_add (Nat.add_le_add hx hy) hz) (by decide)
    exists bnd_ok
    refine wp_draw hb (by omega) (by omega) (by omega) fun way d1 w1 w2 hb1 => ?_
    by_cases q2 : way < 2
    · exact over way _ d1 q2 (by omega) hb1
    · by_cases q3 : way = 2
      · exists bnd_ok
        refine h _ _ _ _ _ (by omega) (by omega) (by omega) hb1 fun x d2 px dx cx sx hb2 => ?_
        exists bnd_ok
        exact k (.ng x) _ px (by show ((dpP x + 1 : Nat) : Int) ≤ _; omega) (c1 x cx) (sz_ng sx) (hb2.mono (by omega))
      · exists bnd_ok
        refine h _ _ _ _ _ (by omega) (by omega) (by omega) hb1 fun x d2 px dx cx sx hb2 => ?_
        by_cases q5 : way < 5
        · have : way = 3 ∨ way = 4 := by omega
          rcases this with rfl | rfl
          · exists bnd_ok
            refine h _ _ _ _ _ (by omega) (by omega) (by omega) hb2 fun y d3 py dy cy sy hb3 => ?_
            exists bnd_ok
            exact k (.tw true x y) _ ⟨px, py⟩ (by show ((max (dpP x) (dpP y) + 1 : Nat) : Int) ≤ _; omega) (c2 x y cx cy) (sz_tw sx sy) (hb3.mono (by omega))
          · exists bnd_ok
            refine h _ _ _ _ _ (by omega) (by omega) (by omega) hb2 fun y d3 py dy cy sy hb3 => ?_
            exists bnd_ok
            exact k (.tw false x y) _ ⟨px, py⟩ (by show ((max (dpP x) (dpP y) + 1 : Nat) : Int) ≤ _; omega) (c2 x y cx cy) (sz_tw sx sy) (hb3.mono (by omega))
        · exists bnd_ok
          refine h _ _ _ _ _ (by omega) (by omega) (by omega) hb2 fun y d3 py dy cy sy hb3 => ?_
          exists bnd_ok
          refine h _ _ _ _ _ (by omega) (by omega) (by omega) hb3 fun z d4 pz dz cz sz hb4 => ?_
          exists bnd_ok
          exact k (.th x y z) _ ⟨px, py, pz⟩ (by show ((max (dpP x) (max (dpP y) (dpP z)) + 1 : Nat) : Int) ≤ _; omega) (c3 x y z cx cy cz) (sz_th sx sy sz) (hb4.mono (by omega))
  · exists bnd_ok
    refine wp_levelP hP hb (by omega) fun a d2 pa hb2 => ?_
    exists bnd_ok
    refine wp_levelP hP hb2 (by omega) fun b d3 pb hb3 => ?_
    exists bnd_ok
    refine wp_moreP hb3 (by omega) fun c d4 pc hb4 => ?_
    exists bnd_ok
    exact fin a b c d4 pa pb pc (hb4.mono (by omega))
theorem wp_plea1 (hP : PuOk ps ts hk ss) : PleaP F__law_plea_r1 (shD ps ts hk ss) 0 76 11 (2 ^ 40 + 2000) := fun kk P n bag room r0 r1 hn hb k => by
  rw [o__law_plea_r1]
  exact plea_stepP (m := 22) (j := 0) (N := 2 ^ 40 + 3000) hP (fun kk P n bag room a b => by omega : PleaP F__law_plea_r0 (shD ps ts hk ss) (-1) 22 0 (2 ^ 40 + 3000)) (by omega) (by omega) r0 (by omega) (by omega) (by decide) (by omega) hb k
theorem wp_plea2 (hP : PuOk ps ts hk ss) : PleaP F__law_plea_r2 (shD ps ts hk ss) 1 238 44 (2 ^ 40 + 1000) := fun kk P n bag room r0 r1 hn hb k => by
  rw [o__law_plea_r2]
  exact plea_stepP hP (wp_plea1 hP) (by omega) (by omega) r0 (by omega) (by omega) (by decide) (by omega) hb k
theorem wp_plea3 (hP : PuOk ps ts hk ss) : PleaP F__law_plea_r3 (shD ps ts hk ss) 2 724 143 (2 ^ 40) := fun kk P n bag room r0 r1 hn hb k => by
  rw [o__law_plea_r3]
  exact plea_stepP hP (wp_plea2 hP) (by omega) (by omega) r0 (by omega) (by omega) (by decide) (by omega) hb k
end

--#NEW
/-! ### a turn -/
section
variable {γ : Type} {kk : Rv × D → R γ} {P : γ → Prop} {n : Nat} {bag : D} {p : Pl}
theorem ne_1 (h : GoP p) {own : D → D → R Rv} : neD own (.lst [plD p, .str (plT p), .str (plT p)]) (.lst [plD p, .str (plT p), .str (plT p)]) = .ok (.bl false, false) := by
  have hd : dok dep (.lst [plD p, .str (plT p), .str (plT p)]) = true := dok_lst fun x hx => by
    simp only [List.mem_cons, List.not_mem_nil, or_false] at hx
    rcases hx with rfl | rfl | rfl
    · exact pl_dok (m := 39) (by omega) h.pl
    · exact h.tsok
    · exact h.tsok
  rw [ne_g hd hd, eqv_refl dep _ hd]; rfl
theorem ne_2 (h : GoP p) {own : D → D → R Rv} : neD own (.lst [plD p, .bl true, .bl true, .bl false]) (.lst [plD p, .bl true, .bl true, .bl false]) = .ok (.bl false, false) := by
  have hd : dok dep (.lst [plD p, .bl true, .bl true, .bl false]) = true := dok_lst fun x hx => by
    simp only [List.mem_cons, List.not_mem_nil, or_false] at hx
    rcases hx with rfl | rfl | rfl | rfl
    · exact pl_dok (m := 39) (by omega) h.pl
    · rfl
    · rfl
    · rfl
  rw [ne_g hd hd, eqv_refl dep _ hd]; rfl
theorem ne_3 {xs : List Bool} {own : D → D → R Rv} : neD own (.lst (xs.map D.bl)) (.lst (xs.map D.bl)) = .ok (.bl false, false) := by
  have hd : dok dep (.lst (xs.map D.bl)) = true := dok_lst fun x hx => by
    obtain ⟨b, _, rfl⟩ := List.mem_map.mp hx
    rfl
  rw [ne_g hd hd, eqv_refl dep _ hd]; rfl
theorem prm1 {x : D} : prm [0] ([] : List D) [x] = [x] := rfl
theorem wp_right (hb : BagOk n bag) (hn : n < 2 ^ 30) (k : ∀ d', Wn (kk ((.bl true, false), d')) P) : Wn (bnd (F__law_right [] bag) kk) P := by
  rw [o__law_right]
  exists bnd_ok
  refine wp_shape hb (by omega) fun ps ts hk ss d1 hP hb1 => ?_
  exists rng_map
  refine wp_for (mk := fun i : Nat => D.int i) (fun i ρ => ∃ d' qs s3 s4 s5 s6 s7 s8, ρ = [.ow d', .sh (shD ps ts hk ss), .ow (.lst (qs.map wiD)), s3, s4, s5, s6, s7, s8, .un, .un] ∧ qs.length = i ∧ (∀ q ∈ qs, GoP q) ∧ BagOk (n + 500 + 200 * i) d') ⟨_, [], _, _, _, _, _, _, rfl, rfl, (fun q hq => by cases hq), hb1⟩ (fun i x9 ρ hx q => ?_) fun ρ q => ?_
  · obtain ⟨d', qs, s3, s4, s5, s6, s7, s8, rfl, hl, hq, hd⟩ := q
    have hi : i < 6 := by have := (List.getElem?_eq_some_iff.mp hx).1; simpa using this
    exists bnd_ok
    refine wp_draw hd (by omega) (by omega) (by omega) fun room d2 r1 r2 hb2 => ?_
    exists bnd_ok
    refine wp_plea3 hP _ _ _ _ _ r1 (by omega) (by omega) hb2 fun p d3 pp dp cp sp hb3 => ?_
    have g : GoP p := ⟨pp, by omega, Nat.le_trans cp (by unfold bR; split <;> (try split) <;> omega), sp⟩
    have e1 := e_wr3 g.ok g.dp (by have := g.sz.1; omega)
    have e2 := e_wish g
    have e3 := e_wst g
    have e4 := e_wrd g
    have e5 := e_weq g g
    rw [eqv_refl dep _ g.dok] at e5
    have e6 := e_weqt (p := p)
    have n1 := ne_1 g (own := sel (cany 5) (fun x y => F_Wish___eq__ [x, y]) no2)
    have n2 := ne_2 g (own := sel (cany 5) (fun x y => F_Wish___eq__ [x, y]) no2)
    have cw := cany_w (p := p)
    exists prm1, e1, e2, e3, e4, e5, e6, n1, n2, cw
    exact ⟨d3, qs ++ [p], _, _, _, _, _, _, by rw [List.map_append]; rfl, by rw [List.length_append, hl]; rfl, (fun q hq' => by
      rcases List.mem_append.mp hq' with z | z
      · exact hq q z
      · rw [List.mem_singleton.mp z]; exact g), hb3.mono (by omega)⟩
  · obtain ⟨d', qs, s3, s4, s5, s6, s7, s8, rfl, hl, hq, hd⟩ := q
    rw [List.length_range] at hl
    exists bnd_ok
    refine wp_for (mk := wiD) (fun i ρ => ∃ s9, ρ = [.ow d', .sh (shD ps ts hk ss), .sh (.lst (qs.map wiD)), s3, s4, s5, s6, s7, s8, s9, .un]) ⟨_, rfl⟩ (fun i x ρ hx q => ?_) fun ρ q => ?_
    · obtain ⟨s9, rfl⟩ := q
      have gx : GoP x := hq x (List.mem_of_getElem? hx)
      have l1 : ∀ s0 s1 s2 s3 s4 s5 s6 s7 s8 : Slot, lcS (gN 10) none (eBin (eqD (sel (cany 5) (fun x y => F_Wish___eq__ [x, y]) no2)) (eVar 9) (eVar 10)) [10] (qs.map wiD) [s0, s1, s2, s3, s4, s5, s6, s7, s8, .sh (wiD x), .un] = .ok ((.lst ((qs.map fun y => eqv (plD x) (plD y)).map D.bl), true), [s0, s1, s2, s3, s4, s5, s6, s7, s8, .sh (wiD x), .un]) := fun s0 s1 s2 s3 s4 s5 s6 s7 s8 => by
        rw [lc_eq (fun y : Pl => some (.bl (eqv (plD x) (plD y)))) rfl (by omega) (fun y hy => ⟨[s0, s1, s2, s3, s4, s5, s6, s7, s8, .sh (wiD x), .sh (wiD y)], (by
          have e := e_weq gx (hq y hy)
          exists e), rfl, rfl⟩), List.filterMap_eq_map', List.map_map]; rfl
      have l2 : ∀ s0 s1 s2 s3 s4 s5 s6 s7 s8 : Slot, lcS (gN 10) none (eBin (eqD (sel (cany 5) (fun x y => F_Wish___eq__ [x, y]) no2)) (eUn (fldD 5 0) (eVar 9)) (eUn (fldD 5 0) (eVar 10))) [10] (qs.map wiD) [s0, s1, s2, s3, s4, s5, s6, s7, s8, .sh (wiD x), .un] = .ok ((.lst ((qs.map fun y => eqv (plD x) (plD y)).map D.bl), true), [s0, s1, s2, s3, s4, s5, s6, s7, s8, .sh (wiD x), .un]) := fun s0 s1 s2 s3 s4 s5 s6 s7 s8 => by
        rw [lc_eq (fun y : Pl => some (.bl (eqv (plD x) (plD y)))) rfl (by omega) (fun y hy => ⟨[s0, s1, s2, s3, s4, s5, s6, s7, s8, .sh (wiD x), .sh (wiD y)], (by
          have e := eq_g (own := sel (cany 5) (fun x y => F_Wish___eq__ [x, y]) no2) gx.dok (hq y hy).dok
          exists e), rfl, rfl⟩), List.filterMap_eq_map', List.map_map]; rfl
      have n3 := ne_3 (xs := qs.map fun y => eqv (plD x) (plD y)) (own := sel (cany 5) (fun x y => F_Wish___eq__ [x, y]) no2)
      exists l1, l2, n3
      exact ⟨_, rfl⟩
    · obtain ⟨s9, rfl⟩ := q
      exists bnd_ok
      exact k _
end

--#NEW
/-! ### the parts of `nested` -/
theorem nest_parts : NestP where
  it := fun s h => ⟨[.sh (.str s), .un, .sh (.str []), .un, .un], by
    unfold mi_nested
    exists bnd_ok⟩
  t1 := fun s w c => ⟨[.sh (.str s), .un, .sh (.str w), .sh (.str [c]), .un], by
    unfold me_nested_t1
    show bnd _ _ = _
    exists bnd_ok
    congr 3
    rw [Bool.eq_iff_iff]
    simp [and_assoc]⟩
  e1 := fun s w c h => ⟨[.sh (.str s), .un, .sh (.str w), .sh (.str [c]), .un], by
    unfold me_nested_e1
    exists bnd_ok⟩
  t2 := fun s w c => ⟨[.sh (.str s), .un, .sh (.str w), .sh (.str [c]), .un], by
    unfold me_nested_t2
    show bnd _ _ = _
    exists bnd_ok
    rfl⟩
  t3 := fun s w c => ⟨[.sh (.str s), .un, .sh (.str w), .sh (.str [c]), .un], by
    unfold me_nested_t3
    show bnd _ _ = _
    exists bnd_ok
    rw [show decide ([c] = [40]) = decide (c = 40) from decide_eq_decide.mpr (by simp)]
    rfl⟩
  t4 := fun s w c => ⟨[.sh (.str s), .un, .sh (.str w), .sh (.str [c]), .un], by
    unfold me_nested_t4
    show bnd _ _ = _
    exists bnd_ok
    rw [show decide ([c] = [41]) = decide (c = 41) from decide_eq_decide.mpr (by simp)]
    rfl⟩
  t5 := fun s w => ⟨[.sh (.str s), .un, .sh (.str w), .un, .un], by
    unfold me_nested_t5
    show bnd _ _ = _
    exists bnd_ok
    rfl⟩
/-! ### the whole law -/
@[reducible] def pl1 : Pl := .ng (.ov (.pa [102, 111, 111, 116] (some 2)) (.le 97) (.fr (-3) 2))
@[reducible] def pl2 : Pl := .tw true (.ov (.ho 65 none) .fl (.it 7)) (.th (.ov .fl (.le 98) (.it 0)) (.ov (.pa lastW (some 0)) (.pa floorW none) (.it (-1))) (.ov (.pa [104, 97, 110, 100] (some 6)) (.ho 65 (some 0)) (.fr 1 2)))
theorem go1 : GoP pl1 := by
  refine ⟨⟨⟨⟨by decide, by decide, by decide⟩, fun k hk => by cases hk; decide⟩, ⟨by decide, by decide⟩, List.mem_append_right _ (by decide)⟩, by decide, by decide, ?_, ?_⟩
  · decide +kernel
  · decide +kernel
theorem go2 : GoP pl2 := by
  refine ⟨⟨⟨⟨⟨by decide, by decide⟩, fun k hk => by cases hk⟩, trivial, it_ok (by decide) (by decide)⟩, ⟨trivial, ⟨by decide, by decide⟩, it_ok (by decide) (by decide)⟩, ⟨⟨⟨by decide, by decide, by decide⟩, fun k hk => by cases hk; decide⟩, ⟨⟨by decide, by decide, by decide⟩, fun k hk => by cases hk⟩, it_ok (by decide) (by decide)⟩, ⟨⟨⟨by decide, by decide, by decide⟩, fun k hk => by cases hk; decide⟩, ⟨⟨by decide, by decide⟩, fun k hk => by cases hk; decide⟩, List.mem_append_right _ (by decide)⟩⟩, by decide, by decide, ?_, ?_⟩
  · decide +kernel
  · decide +kernel
@[reducible] def d1 : D := .tup [.str notW, .tup [.str overW, .tup [.str partW, .str [102, 111, 111, 116], .int 2], .tup [.str lengthW, .str [97]], .tup [.int (-3), .int 2]]]
@[reducible] def d2 : D := .tup [.str ifW, .tup [.str overW, .tup [.str hookW, .str [65], .str lastW], .tup [.str floorW], .int 7], .tup [.str orW, .tup [.str overW, .tup [.str floorW], .tup [.str lengthW, .str [98]], .int 0], .tup [.str overW, .tup [.str partW, .str lastW, .int 0], .tup [.str partW, .str floorW, .str lastW], .int (-1)], .tup [.str overW, .tup [.str partW, .str [104, 97, 110, 100], .int 6], .tup [.str hookW, .str [65], .int 0], .tup [.int 1, .int 2]]]]
@[reducible] def t1 : List Nat := [40, 110, 111, 116, 32, 40, 111, 118, 101, 114, 32, 102, 111, 111, 116, 64, 50, 32, 97, 32, 45, 51, 47, 50, 41, 41]
@[reducible] def t2 : List Nat := [40, 105, 102, 32, 40, 111, 118, 101, 114, 32, 65, 64, 108, 97, 115, 116, 32, 102, 108, 111, 111, 114, 32, 55, 41, 32, 40, 111, 114, 32, 40, 111, 118, 101, 114, 32, 102, 108, 111, 111, 114, 32, 98, 32, 48, 41, 32, 40, 111, 118, 101, 114, 32, 108, 97, 115, 116, 64, 48, 32, 102, 108, 111, 111, 114, 64, 108, 97, 115, 116, 32, 45, 49, 41, 32, 40, 111, 118, 101, 114, 32, 104, 97, 110, 100, 64, 54, 32, 65, 64, 48, 32, 49, 47, 50, 41, 41, 41]
theorem t1_eq : plT pl1 = t1 := by decide +kernel
theorem t2_eq : plT pl2 = t2 := by decide +kernel
theorem law_true (ns : List Int) (h : ns.length ≤ 63) : F_law [.fls (ns.map D.int)] = .ok (.bl true, false) := by
  have w1 : mkObj 5 F_Wish___init__ [d1] = .ok (.ins 5 [d1], false) := e_wish go1
  have w2 : mkObj 5 F_Wish___init__ [d2] = .ok (.ins 5 [d2], false) := e_wish go2
  have s1 : F_Wish___str__ [.ins 5 [d1]] = .ok (.str t1, false) := by rw [← t1_eq]; exact e_wst go1
  have s2 : F_Wish___str__ [.ins 5 [d2]] = .ok (.str t2, false) := by rw [← t2_eq]; exact e_wst go2
  have r1 : F_Wish_read [.str t1] = .ok (.ins 5 [d1], false) := by rw [← t1_eq]; exact e_wrd go1
  have r2 : F_Wish_read [.str t2] = .ok (.ins 5 [d2], false) := by rw [← t2_eq]; exact e_wrd go2
  have q1 : neD no2 d1 d1 = .ok (.bl false, false) := rfl
  have q2 : neD no2 d2 d2 = .ok (.bl false, false) := rfl
  have i1 : (0 : Int) - 3 = -3 := rfl
  have i2 : (0 : Int) - 1 = -1 := rfl
  refine Wn.eq ?_
  rw [o_law]
  exists rng_map, i1, i2, w1, w2, s1, s2, r1, r2, q1, q2
  refine wp_lc (fun n acc ρ => acc = List.replicate n (.bl true) ∧ ∃ s1 s2 s, ρ = [.sh (.fls (ns.map D.int)), s1, s2, s] ∧ okS (some s) = true) rfl (by rw [List.length_range]; omega) ⟨rfl, _, _, _, rfl, rfl⟩ (fun n x acc ρ hx q => ?_) fun acc ρ q => ?_
  · obtain ⟨rfl, s1, s2, s, rfl, hs⟩ := q
    have hx2 := List.getElem?_eq_some_iff.mp hx
    obtain ⟨hl, e⟩ := hx2
    rw [List.length_range] at hl
    rw [List.getElem_range] at e
    subst e
    exists bnd_ok
    refine wp_bag (by omega) (by omega) fun b hb => ?_
    exists bnd_ok
    refine wp_right hb (by decide) fun d' => ?_
    exists bnd_ok
    exact ⟨by rw [List.replicate_succ'], _, _, _, rfl, rfl⟩
  · obtain ⟨rfl, s1, s2, s, rfl, hs⟩ := q
    have e : ∀ n, List.replicate n (D.bl true) = (List.range n).map fun _ => D.bl true := fun n => by induction n with | zero => rfl | succ n ih => rw [List.replicate_succ', ih, List.range_succ, List.map_append]; rfl
    exists e, all_true

end DY

set_option Elab.async false
set_option linter.all false
set_option maxRecDepth 100000
set_option maxHeartbeats 4000000
namespace DY
open PySem L2 SL
def fdNmsB : List (String × String × String × Bool) := []
open Lean in
def fdOfB (x : Ident) : MacroM Term := do
  let s := x.getId.toString
  let i (p : String) : Ident := mkIdent (Name.mkSimple (p ++ s))
  let (n, q, b) := (fdNmsB.lookup s).getD (s, s, false)
  let d ← if b then `(.ref $(i "dt_")) else `(.none)
  `(PySem.W.fnOf $(quote n) $(quote q) (defArgs $(i "st_")) (defBody $(i "st_")) (defScope $(i "st_")) $d $(i "kV_") $(i "dc_") $(i "pm_") $(i "an_") $(i "cd_") $(i "ct_"))
open Lean in
local macro_rules
  | `(unop% $f:ident $x:ident) => do
    if f.getId != `fd then Macro.throwUnsupported
    if x.getId == `lr then `(by first | exact Or.inl rfl | exact Or.inr rfl) else fdOfB x
section Tbs
variable [Tb]
local macro_rules | `(tactic| walk_at "ne") => `(tactic| repeat' first
  | exact ne_var | exact ne_move | exact ne_c | exact ne_c0 | exact nes_nil | exact nn_pF | exact n2_p | exact n2_pF | exact n2_pFs | exact n1_pF | exact nn_mk | exact nn_mkD | exact n2_no | exact n1_no | exact n2_mulT
  | exact n2_fdiv | exact n2_mod | exact n2_pow | exact n2_lt | exact n2_le | exact n2_gt | exact n2_ge | exact n2_isN | exact n2_notN | exact n2_in | exact n2_nin | exact n2_ix | exact n2_join | exact n1_fld | exact n3_get
  | exact nn_isi | exact nn_abs | exact nn_int | exact nn_all | exact nn_any | exact nn_tuple | exact nn_tup | exact nn_lst | exact nn_mkey | exact trivial | exact ns_next | exact ns_no | exact ns_retN | exact ns_retV | exact ng_n | exact ngs_nil | exact ni_keys
  | refine nes_cons ?_ ?_ | refine ne_bin ?_ ?_ ?_ | refine ne_un ?_ ?_ | refine ne_n ?_ ?_ | refine ne_bor ?_ ?_ | refine ne_borR ?_ ?_ | refine ne_bor1 ?_ | refine ne_if ?_ ?_ ?_ | refine ne_and ?_ ?_ | refine ne_or ?_ ?_ | refine ne_not ?_
  | refine ne_chain ?_ ?_ ?_ ?_ ?_ | refine ne_get ?_ ?_ ?_ ?_ | refine ne_lc ?_ ?_ ?_ ?_ | refine ne_slice ?_ ?_ ?_ | refine ne_meth ?_ ?_ ?_ | refine ne_methK ?_ ?_ ?_ ?_ | refine ne_nk ?_ ?_ ?_ | refine ne_callR ?_ ?_ | refine ne_app ?_
  | refine n2_add ?_ | refine n2_sub ?_ | refine n2_mul ?_ | refine n1_neg ?_ | refine n2_eq ?_ | refine n2_ne ?_ | refine n1_len ?_ | refine nn_len ?_ | refine n2_sel ?_ ?_ | refine n1_sel1 ?_ ?_
  | refine ng_t ?_ | refine ngs_cons ?_ ?_ | refine ni_val ?_ | refine ni_range ?_ | refine ni_en ?_
  | refine ns_seq ?_ ?_ | refine ns_asg ?_ | refine ns_expr ?_ | refine ns_ret ?_ | refine ns_if ?_ ?_ ?_ | refine ns_asgT ?_ ?_ | refine ns_fld ?_ | refine ns_par ?_ ?_)
section
variable {P : Program} {w : World} {K : PySem.W.Frag} {mg : Str → Option Value} {base : Heap} {A : CT} {x : Fx}
theorem ok_are_great (T : Txt K mg base A x) : FnOk P w K mg base (L2.CX P w) 1 x.f_are_great x.d_are_great ["value", "least", "most"] (spF K A F_are_great 3) := by
  refine SL.fun_ok T.F_are_great sc_are_great (fun vs H Q E h => h.1) (fun cdv Ar outer s H vs Q E hr h => ?_)
  exact ⟨liftS K A none mm_are_great, (by unfold mm_are_great; exact ((pdss_cons (pds_if (pdt_w (pdw_or (pdt_not (pdt_val (pd_callB (o_isi T.kd) (by rfl) T.n_isinstance (by decide +kernel) (pda_cons (pd_var (pv 0)) (pda_cons (pd_c (pe_bltn (v := .ty "str") (by rfl) T.n_str (by decide +kernel) rfl) fun _ => .ty .str) pda_nil))))) (pdw_or1 (pdt_not (pdt_chain o_le o_le (pd_var (pv 1)) (PE.imp (pe_callB (o_lenb o_noN) (by rfl) T.n_len (by decide +kernel) (pa_cons (pv 0) pa_nil)) fun _ _ _ => bor1_use (nf_len nf_no1)) (pd_var (pv 2)) nf_le))))) (pdss_one (pds_ret pd_bl)) pdss_nil)
  (pdss_one (pds_ret (pd_callB (o_all rfl) (by rfl) T.n_all (by decide +kernel) (pda_cons (pd_lc (by decide) (pe_lc (own := [("sign", 3)]) rfl sc_are_great.nd (pdi_val (pd_var (pv 0))) (blkOk_by (own := [("sign", 3)]) (N := nm_are_great) (sc := defScope st_are_great) (by decide +kernel)) (fun _ _ _ _ _ => (pdg_name (pg_name (i := 3) sc_are_great.nd rfl (unop% fd lr)))) (fun _ _ _ _ _ => pdts_nil) (fun _ _ _ _ _ => (pd_chain o_le o_le (pd_str (by decide +kernel)) (pd_var (pv 3)) (pd_str (by decide +kernel)) nf_le)))) pda_nil))))))), enter_F (p := 3) rfl (by decide) (by rw [q_are_great] at h; exact h)⟩
theorem ok_are_small (T : Txt K mg base A x) : FnOk P w K mg base (L2.CX P w) 1 x.f_are_small x.d_are_small ["value", "least", "most"] (spF K A F_are_small 3) := by
  refine SL.fun_ok T.F_are_small sc_are_small (fun vs H Q E h => h.1) (fun cdv Ar outer s H vs Q E hr h => ?_)
  exact ⟨liftS K A none mm_are_small, (by unfold mm_are_small; exact ((pdss_cons (pds_if (pdt_w (pdw_or (pdt_not (pdt_val (pd_callB (o_isi T.kd) (by rfl) T.n_isinstance (by decide +kernel) (pda_cons (pd_var (pv 0)) (pda_cons (pd_c (pe_bltn (v := .ty "str") (by rfl) T.n_str (by decide +kernel) rfl) fun _ => .ty .str) pda_nil))))) (pdw_or1 (pdt_not (pdt_chain o_le o_le (pd_var (pv 1)) (PE.imp (pe_callB (o_lenb o_noN) (by rfl) T.n_len (by decide +kernel) (pa_cons (pv 0) pa_nil)) fun _ _ _ => bor1_use (nf_len nf_no1)) (pd_var (pv 2)) nf_le))))) (pdss_one (pds_ret pd_bl)) pdss_nil)
  (pdss_one (pds_ret (pd_callB (o_all rfl) (by rfl) T.n_all (by decide +kernel) (pda_cons (pd_lc (by decide) (pe_lc (own := [("sign", 3)]) rfl sc_are_small.nd (pdi_val (pd_var (pv 0))) (blkOk_by (own := [("sign", 3)]) (N := nm_are_small) (sc := defScope st_are_small) (by decide +kernel)) (fun _ _ _ _ _ => (pdg_name (pg_name (i := 3) sc_are_small.nd rfl (unop% fd lr)))) (fun _ _ _ _ _ => pdts_nil) (fun _ _ _ _ _ => (pd_chain o_le o_le (pd_str (by decide +kernel)) (pd_var (pv 3)) (pd_str (by decide +kernel)) nf_le)))) pda_nil))))))), enter_F (p := 3) rfl (by decide) (by rw [q_are_small] at h; exact h)⟩
theorem ok_is_integer (T : Txt K mg base A x) : FnOk P w K mg base (L2.CX P w) 1 x.f_is_integer x.d_is_integer ["value"] (spF K A F_is_integer 1) := by
  refine SL.fun_ok T.F_is_integer sc_is_integer (fun vs H Q E h => h.1) (fun cdv Ar outer s H vs Q E hr h => ?_)
  exact ⟨liftS K A none mm_is_integer, (by unfold mm_is_integer; exact ((pdss_one (pds_ret (pd_and (pd_callB (o_isi T.kd) (by rfl) T.n_isinstance (by decide +kernel) (pda_cons (pd_var (pv 0)) (pda_cons (pd_c (pe_bltn (v := .ty "int") (by rfl) T.n_int (by decide +kernel) rfl) fun _ => .ty .int) pda_nil))) (pd_one (pd_not (pd_callB (o_isi T.kd) (by rfl) T.n_isinstance (by decide +kernel) (pda_cons (pd_var (pv 0)) (pda_cons (pd_c (pe_bltn (v := .ty "bool") (by rfl) T.n_bool (by decide +kernel) rfl) fun _ => .ty .bool) pda_nil)))))))))), enter_F (p := 1) rfl (by decide) (by rw [q_is_integer] at h; exact h)⟩
theorem ok_is_number (T : Txt K mg base A x) : FnOk P w K mg base (L2.CX P w) 3 x.f_is_number x.d_is_number ["value", "most"] (spF K A F_is_number 2) := by
  refine SL.funD_ok T.F_is_number sc_is_number (fun vs H Q E h => h.1) (fun cdv Ar outer s H vs Q E hr h => ?_)
  exact ⟨liftS K A none mm_is_number, (by unfold mm_is_number; exact ((pdss_one (pds_ret (pd_and (pd_call hl_is_integer (ok_is_integer T) (hr.mono (by decide)) rfl T.g_is_integer T.kp_is_integer T.b_is_integer passL (pda_cons (pd_var (pv 0)) pda_nil)) (pd_and (pd_cmp o_ge (pd_var (pv 0)) pd_int (nomark _)) (pd_one (pd_or (pd_cmp o_isN (pd_var (pv 1)) pd_non (nomark _)) (pd_one (pd_cmp o_le (pd_var (pv 0)) (pd_var (pv 1)) (nomark _))))))))))), enter_F (p := 2) rfl (by decide) (by rw [q_is_number] at h; exact h)⟩
theorem ok_is_moment (T : Txt K mg base A x) : FnOk P w K mg base (L2.CX P w) 5 x.f_is_moment x.d_is_moment ["value", "last"] (spF K A F_is_moment 2) := by
  refine SL.fun_ok T.F_is_moment sc_is_moment (fun vs H Q E h => h.1) (fun cdv Ar outer s H vs Q E hr h => ?_)
  exact ⟨liftS K A none mm_is_moment, (by unfold mm_is_moment; exact ((pdss_one (pds_ret (pd_or (pd_call hl_is_number (ok_is_number T) (hr.mono (by decide)) rfl T.g_is_number T.kp_is_number T.b_is_number passL (pda_cons (pd_var (pv 0)) (pda_cons (pd_var (pv 1)) pda_nil))) (pd_one (pd_and (pd_callB (o_isi T.kd) (by rfl) T.n_isinstance (by decide +kernel) (pda_cons (pd_var (pv 0)) (pda_cons (pd_c (pe_bltn (v := .ty "str") (by rfl) T.n_str (by decide +kernel) rfl) fun _ => .ty .str) pda_nil))) (pd_one (pd_cmp (o_eq hr.units o_no) (pd_var (pv 0)) (pd_str (by decide +kernel)) (nomark _)))))))))), enter_F (p := 2) rfl (by decide) (by rw [q_is_moment] at h; exact h)⟩
theorem ok_is_level (T : Txt K mg base A x) : FnOk P w K mg base (L2.CX P w) 7 x.f_is_level x.d_is_level ["value"] (spF K A F_is_level 1) := by
  refine SL.fun_ok T.F_is_level sc_is_level (fun vs H Q E h => h.1) (fun cdv Ar outer s H vs Q E hr h => ?_)
  exact ⟨liftS K A none mm_is_level, (by unfold mm_is_level mt_is_level_3 mt_is_level_2 mt_is_level_1; exact ((pdss_cons (pds_if (pdt_w (pdw_or (pdt_not (pdt_val (pd_callB (o_isi T.kd) (by rfl) T.n_isinstance (by decide +kernel) (pda_cons (pd_var (pv 0)) (pda_cons (pd_c (pe_bltn (v := .ty "tuple") (by rfl) T.n_tuple (by decide +kernel) rfl) fun _ => .ty .tuple) pda_nil))))) (pdw_or (pdt_cmp (o_eq hr.units o_no) (pd_var (pv 0)) (pd_tup pda_nil) (nomark _)) (pdw_or1 (pdt_not (pdt_val (pd_callB (o_isi T.kd) (by rfl) T.n_isinstance (by decide +kernel) (pda_cons (pd_borix hr.units1 (pv 0) pd_int (fun _ _ => rfl)) (pda_cons (pd_c (pe_bltn (v := .ty "str") (by rfl) T.n_str (by decide +kernel) rfl) fun _ => .ty .str) pda_nil))))))))) (pdss_one (pds_ret pd_bl)) pdss_nil)
  (pdss_cons (pds_if (pdt_cmp (o_eq hr.units o_no) (pd_borix hr.units1 (pv 0) pd_int (fun _ _ => rfl)) (pd_str (by decide +kernel)) (nomark _)) (pdss_one (pds_ret (pd_cmp (o_eq hr.units o_no) (PE.imp (pe_callB (o_lenb o_noN) (by rfl) T.n_len (by decide +kernel) (pa_cons (pv 0) pa_nil)) fun _ _ _ => bor1_use (nf_len nf_no1)) pd_int (nomark _)))) pdss_nil)
  (pdss_cons (pds_if (pdt_cmp (o_eq hr.units o_no) (pd_borix hr.units1 (pv 0) pd_int (fun _ _ => rfl)) (pd_str (by decide +kernel)) (nomark _)) (pdss_one (pds_ret (pd_and (pd_cmp (o_eq hr.units o_no) (PE.imp (pe_callB (o_lenb o_noN) (by rfl) T.n_len (by decide +kernel) (pa_cons (pv 0) pa_nil)) fun _ _ _ => bor1_use (nf_len nf_no1)) pd_int (nomark _)) (pd_one (pd_call hl_are_small (ok_are_small T) (hr.mono (by decide)) rfl T.g_are_small T.kp_are_small T.b_are_small passL (pda_cons (pd_borix hr.units1 (pv 0) pd_int (fun _ _ => rfl)) (pda_cons pd_int (pda_cons pd_int pda_nil)))))))) pdss_nil)
  (pdss_cons (pds_if (pdt_w (pdw_or (pdt_cmp (o_ne hr.units o_noNe) (PE.imp (pe_callB (o_lenb o_noN) (by rfl) T.n_len (by decide +kernel) (pa_cons (pv 0) pa_nil)) fun _ _ _ => bor1_use (nf_len nf_no1)) pd_int (nomark _)) (pdw_or1 (pdt_not (pdt_val (pd_call hl_is_moment (ok_is_moment T) (hr.mono (by decide)) rfl T.g_is_moment T.kp_is_moment T.b_is_moment passL (pda_cons (pd_borix hr.units1 (pv 0) pd_int (fun _ _ => rfl)) (pda_cons (pd_c (pe_glob (v := .int 6) rfl T.k_MOST_MOVES.choose_spec ⟨_, rfl⟩) fun _ => .int 6) pda_nil)))))))) (pdss_one (pds_ret pd_bl)) pdss_nil)
  (pdss_one (pds_ret (pd_or (pd_and (pd_cmp (o_eq hr.units o_no) (pd_borix hr.units1 (pv 0) pd_int (fun _ _ => rfl)) (pd_str (by decide +kernel)) (nomark _)) (pd_one (pd_call hl_are_great (ok_are_great T) (hr.mono (by decide)) rfl T.g_are_great T.kp_are_great T.b_are_great passL (pda_cons (pd_borix hr.units1 (pv 0) pd_int (fun _ _ => rfl)) (pda_cons pd_int (pda_cons pd_int pda_nil)))))) (pd_one (pd_and (pd_cmp (o_eq hr.units o_no) (pd_borix hr.units1 (pv 0) pd_int (fun _ _ => rfl)) (pd_str (by decide +kernel)) (nomark _)) (pd_one (pd_call hl_are_small (ok_are_small T) (hr.mono (by decide)) rfl T.g_are_small T.kp_are_small T.b_are_small passL (pda_cons (pd_borix hr.units1 (pv 0) pd_int (fun _ _ => rfl)) (pda_cons pd_int (pda_cons pd_int pda_nil)))))))))))))))), enter_F (p := 1) rfl (by decide) (by rw [q_is_level] at h; exact h)⟩
theorem ok_shared_factor (T : Txt K mg base A x) : FnOk P w K mg base (L2.CX P w) 1 x.f_shared_factor x.d_shared_factor ["one", "two"] (spF K A F_shared_factor 2) := by
  refine SL.fun_ok T.F_shared_factor sc_shared_factor (fun vs H Q E h => h.1) (fun cdv Ar outer s H vs Q E hr h => ?_)
  have pO : PassesOwn (model P w) (cxOf (L2.CX P w) P w K mg base nm_shared_factor "shared_factor" (defScope st_shared_factor) x.f_shared_factor cdv Ar outer s H E).A (cxOf (L2.CX P w) P w K mg base nm_shared_factor "shared_factor" (defScope st_shared_factor) x.f_shared_factor cdv Ar outer s H E).env (cxOf (L2.CX P w) P w K mg base nm_shared_factor "shared_factor" (defScope st_shared_factor) x.f_shared_factor cdv Ar outer s H E).xe := passes_of rfl
  exact ⟨liftS K A none mm_shared_factor, (by unfold mm_shared_factor mt_shared_factor_2 mt_shared_factor_1; exact ((pdss_cons (pds_par (i := 2) (k := 3) rfl sc_shared_factor.nd rfl rfl (by decide) rfl rfl (pd_callB o_abs (by rfl) T.n_abs (by decide +kernel) (pda_cons (pd_var (pv 0)) pda_nil)) (pd_callB o_abs (by rfl) T.n_abs (by decide +kernel) (pda_cons (pd_var (pv 1)) pda_nil)) (fun _ => by decide) (by rfl))
  (pdss_cons (pds_while pO (pdt_cmp o_gt (pd_var (pv 3)) pd_int (nomark _)) (pdss_one (pds_par (i := 2) (k := 3) rfl sc_shared_factor.nd rfl rfl (by decide) rfl rfl (pd_var (pv 3)) (pd_bin o_mod (pd_var (pv 2)) (pd_var (pv 3))) (fun _ => by decide) (by rfl))))
  (pdss_one (pds_retV (pv 2) (by decide))))))), enter_F (p := 2) rfl (by decide) (by rw [q_shared_factor] at h; exact h)⟩
theorem ok_is_more (T : Txt K mg base A x) : FnOk P w K mg base (L2.CX P w) 3 x.f_is_more x.d_is_more ["value"] (spF K A F_is_more 1) := by
  refine SL.fun_ok T.F_is_more sc_is_more (fun vs H Q E h => h.1) (fun cdv Ar outer s H vs Q E hr h => ?_)
  exact ⟨liftS K A none mm_is_more, (by unfold mm_is_more mt_is_more_1; exact ((pdss_cons (pds_if (pdt_val (pd_call hl_is_integer (ok_is_integer T) (hr.mono (by decide)) rfl T.g_is_integer T.kp_is_integer T.b_is_integer passL (pda_cons (pd_var (pv 0)) pda_nil))) (pdss_one (pds_ret pd_bl)) pdss_nil)
  (pdss_cons (pds_if (pdt_w (pdw_or (pdt_not (pdt_val (pd_callB (o_isi T.kd) (by rfl) T.n_isinstance (by decide +kernel) (pda_cons (pd_var (pv 0)) (pda_cons (pd_c (pe_bltn (v := .ty "tuple") (by rfl) T.n_tuple (by decide +kernel) rfl) fun _ => .ty .tuple) pda_nil))))) (pdw_or (pdt_cmp (o_ne hr.units o_noNe) (PE.imp (pe_callB (o_lenb o_noN) (by rfl) T.n_len (by decide +kernel) (pa_cons (pv 0) pa_nil)) fun _ _ _ => bor1_use (nf_len nf_no1)) pd_int (nomark _)) (pdw_or (pdt_not (pdt_val (pd_call hl_is_integer (ok_is_integer T) (hr.mono (by decide)) rfl T.g_is_integer T.kp_is_integer T.b_is_integer passL (pda_cons (pd_borix hr.units1 (pv 0) pd_int (fun _ _ => rfl)) pda_nil)))) (pdw_or1 (pdt_not (pdt_val (pd_call hl_is_integer (ok_is_integer T) (hr.mono (by decide)) rfl T.g_is_integer T.kp_is_integer T.b_is_integer passL (pda_cons (pd_borix hr.units1 (pv 0) pd_int (fun _ _ => rfl)) pda_nil))))))))) (pdss_one (pds_ret pd_bl)) pdss_nil)
  (pdss_one (pds_ret (pd_and (pd_cmp o_gt (pd_borix hr.units1 (pv 0) pd_int (fun _ _ => rfl)) pd_int (nomark _)) (pd_one (pd_cmp (o_eq hr.units o_no) (pd_call hl_shared_factor (ok_shared_factor T) (hr.mono (by decide)) rfl T.g_shared_factor T.kp_shared_factor T.b_shared_factor passL (pda_cons (pd_borix hr.units1 (pv 0) pd_int (fun _ _ => rfl)) (pda_cons (pd_borix hr.units1 (pv 0) pd_int (fun _ _ => rfl)) pda_nil))) pd_int (nomark _)))))))))), enter_F (p := 1) rfl (by decide) (by rw [q_is_more] at h; exact h)⟩
theorem ok_is_headed (T : Txt K mg base A x) : FnOk P w K mg base (L2.CX P w) 9 x.f_is_headed x.d_is_headed ["value"] (spF K A F_is_headed 1) := by
  refine SL.fun_ok T.F_is_headed sc_is_headed (fun vs H Q E h => h.1) (fun cdv Ar outer s H vs Q E hr h => ?_)
  exact ⟨liftS K A none mm_is_headed, (by unfold mm_is_headed mt_is_headed_3 mt_is_headed_2 mt_is_headed_1; exact ((pdss_cons (pds_if (pdt_w (pdw_or (pdt_not (pdt_val (pd_callB (o_isi T.kd) (by rfl) T.n_isinstance (by decide +kernel) (pda_cons (pd_var (pv 0)) (pda_cons (pd_c (pe_bltn (v := .ty "tuple") (by rfl) T.n_tuple (by decide +kernel) rfl) fun _ => .ty .tuple) pda_nil))))) (pdw_or (pdt_cmp (o_eq hr.units o_no) (pd_var (pv 0)) (pd_tup pda_nil) (nomark _)) (pdw_or1 (pdt_not (pdt_val (pd_callB (o_isi T.kd) (by rfl) T.n_isinstance (by decide +kernel) (pda_cons (pd_borix hr.units1 (pv 0) pd_int (fun _ _ => rfl)) (pda_cons (pd_c (pe_bltn (v := .ty "str") (by rfl) T.n_str (by decide +kernel) rfl) fun _ => .ty .str) pda_nil))))))))) (pdss_one (pds_ret pd_bl)) pdss_nil)
  (pdss_cons (pds_par (i := 1) (k := 2) rfl sc_is_headed.nd rfl rfl (by decide) rfl rfl (pd_borix hr.units1 (pv 0) pd_int (fun _ _ => rfl)) (pd_bin (o_sub o_no) (PE.imp (pe_callB (o_lenb o_noN) (by rfl) T.n_len (by decide +kernel) (pa_cons (pv 0) pa_nil)) fun _ _ _ => bor1_use (nf_len nf_no1)) pd_int) (fun _ => by decide) (by rfl))
  (pdss_cons (pds_if (pdt_cmp (o_eq hr.units o_no) (pd_var (pv 1)) (pd_str (by decide +kernel)) (nomark _)) (pdss_one (pds_ret (pd_and (pd_cmp (o_eq hr.units o_no) (pd_var (pv 2)) pd_int (nomark _)) (pd_and (pd_call hl_is_level (ok_is_level T) (hr.mono (by decide)) rfl T.g_is_level T.kp_is_level T.b_is_level passL (pda_cons (pd_borix hr.units1 (pv 0) pd_int (fun _ _ => rfl)) pda_nil)) (pd_and (pd_call hl_is_level (ok_is_level T) (hr.mono (by decide)) rfl T.g_is_level T.kp_is_level T.b_is_level passL (pda_cons (pd_borix hr.units1 (pv 0) pd_int (fun _ _ => rfl)) pda_nil)) (pd_one (pd_call hl_is_more (ok_is_more T) (hr.mono (by decide)) rfl T.g_is_more T.kp_is_more T.b_is_more passL (pda_cons (pd_borix hr.units1 (pv 0) pd_int (fun _ _ => rfl)) pda_nil)))))))) pdss_nil)
  (pdss_cons (pds_if (pdt_cmp (o_in (u65 hr)) (pd_var (pv 1)) (pd_tup (pda_cons (pd_str (by decide +kernel)) (pda_cons (pd_str (by decide +kernel)) pda_nil))) (by with_unfolding_all rfl)) (pdss_one (pds_ret (pd_chain o_le o_le pd_int (pd_var (pv 2)) (pd_c (pe_glob (v := .int 6) rfl T.k_MOST_WISHES.choose_spec ⟨_, rfl⟩) fun _ => .int 6) nf_le))) pdss_nil)
  (pdss_one (pds_ret (pd_or (pd_and (pd_cmp (o_eq hr.units o_no) (pd_var (pv 1)) (pd_str (by decide +kernel)) (nomark _)) (pd_one (pd_cmp (o_eq hr.units o_no) (pd_var (pv 2)) pd_int (nomark _)))) (pd_one (pd_and (pd_cmp (o_eq hr.units o_no) (pd_var (pv 1)) (pd_str (by decide +kernel)) (nomark _)) (pd_one (pd_cmp (o_eq hr.units o_no) (pd_var (pv 2)) pd_int (nomark _)))))))))))))), enter_F (p := 1) rfl (by decide) (by rw [q_is_headed] at h; exact h)⟩
theorem ok_overs_in (T : Txt K mg base A x) : FnOk P w K mg base (L2.CX P w) 11 x.f_overs_in x.d_overs_in ["form"] (spF K A F_overs_in 1) := by
  refine SL.fun_ok T.F_overs_in sc_overs_in (fun vs H Q E h => h.1) (fun cdv Ar outer s H vs Q E hr h => ?_)
  have pO : PassesOwn (model P w) (cxOf (L2.CX P w) P w K mg base nm_overs_in "overs_in" (defScope st_overs_in) x.f_overs_in cdv Ar outer s H E).A (cxOf (L2.CX P w) P w K mg base nm_overs_in "overs_in" (defScope st_overs_in) x.f_overs_in cdv Ar outer s H E).env (cxOf (L2.CX P w) P w K mg base nm_overs_in "overs_in" (defScope st_overs_in) x.f_overs_in cdv Ar outer s H E).xe := passes_of rfl
  exact ⟨liftS K A none mm_overs_in, (by unfold mm_overs_in mt_overs_in_3 mt_overs_in_2 mt_overs_in_1; exact ((pdss_cons (pds_par (i := 1) (k := 2) rfl sc_overs_in.nd rfl rfl (by decide) rfl rfl (pd_lst pda_nil) (pd_lst (pda_cons (pd_tup (pda_cons (pd_var (pv 0)) (pda_cons pd_int pda_nil))) pda_nil)) (fun _ => by decide) (by rfl))
  (pdss_cons (pds_while pO (pdt_neE hr.units (pv 2) (pd_lst pda_nil) (by with_unfolding_all rfl)) (pdss_cons (pds_asgT (pd_pop0 (pv 2)) (pdg_tup rfl (pdgs_cons (pdg_name (pg_name (i := 3) sc_overs_in.nd rfl (unop% fd lr))) (pdgs_cons (pdg_name (pg_name (i := 4) sc_overs_in.nd rfl (unop% fd lr))) pdgs_nil))))
  (pdss_cons (pds_if (pdt_w (pdw_or (pdt_cmp o_gt (pd_var (pv 4)) (pd_c (pe_glob (v := .int 4) rfl T.k_MOST_DEPTH.choose_spec ⟨_, rfl⟩) fun _ => .int 4) (nomark _)) (pdw_or1 (pdt_not (pdt_val (pd_call hl_is_headed (ok_is_headed T) (hr.mono (by decide)) rfl T.g_is_headed T.kp_is_headed T.b_is_headed passL (pda_cons (pd_var (pv 3)) pda_nil))))))) (pdss_one (pds_ret pd_non)) pdss_nil)
  (pdss_one (pds_if (pdt_cmp (o_eq hr.units o_no) (pd_borix hr.units1 (pv 3) pd_int (fun _ _ => rfl)) (pd_str (by decide +kernel)) (nomark _)) (pdss_cons (pds_expr (pd_append (pv 1) (pda_cons (pd_var (pv 3)) pda_nil) (fun h => pe_bm PySem.F.plainAttrs_list PySem.F.slot_list_append PySem.F.type_list_append h (pv 1) (pda_cons (pd_var (pv 3)) pda_nil))))
  (pdss_one (pds_if (pdt_cmp o_gt (PE.imp (pe_callB (o_lenb o_noN) (by rfl) T.n_len (by decide +kernel) (pa_cons (pv 1) pa_nil)) fun _ _ _ => bor1_use (nf_len nf_no1)) (pd_c (pe_glob (v := .int 8) rfl T.k_MOST_OVERS.choose_spec ⟨_, rfl⟩) fun _ => .int 8) (nomark _)) (pdss_one (pds_ret pd_non)) pdss_nil))) (pdss_one (pds_expr (pd_extend (fun h => pe_bm PySem.F.plainAttrs_list PySem.F.slot_list_extend PySem.F.type_list_extend h (pv 2) (pda_cons (pd_lc (by decide) (pe_lc (own := [("inner", 5)]) rfl sc_overs_in.nd (pdi_val (pd_tailR (pd_var (pv 3)) (po_some pe_int) (fun _ _ _ h => ⟨_, rfl, h⟩) (po_some (pe_un un_neg pe_int)) (fun _ _ _ h => ⟨_, rfl, _, rfl, h⟩))) (blkOk_by (own := [("inner", 5)]) (N := nm_overs_in) (sc := defScope st_overs_in) (by decide +kernel)) (fun _ _ _ _ _ => (pdg_name (pg_name (i := 5) sc_overs_in.nd rfl (unop% fd lr)))) (fun _ _ _ _ _ => pdts_nil) (fun _ _ _ _ _ => (pd_tup (pda_cons (pd_var (pv 5)) (pda_cons (pd_bin (o_add o_no) (pd_var (pv 4)) pd_int) pda_nil)))))) pda_nil))))))))))
  (pdss_one (pds_retV (pv 1) (by decide))))))), enter_F (p := 1) rfl (by decide) (by rw [q_overs_in] at h; exact h)⟩
theorem ok_Wish___init__ (T : Txt K mg base A x) : FnOk P w K mg base (L2.CX P w) 13 x.f_Wish___init__ x.d_Wish___init__ ["self", "form"] (spR K A F_Wish___init__ 2 0) := by
  refine SL.fun_ok T.F_Wish___init__ sc_Wish___init__ (fun vs H Q E h => h.1) (fun cdv Ar outer s H vs Q E hr h => ?_)
  exact ⟨liftS K A (some 0) mm_Wish___init__, (by unfold mm_Wish___init__; exact ((pdss_cons (pds_if (pdt_cmp o_isN (pd_call hl_overs_in (ok_overs_in T) (hr.mono (by decide)) rfl T.g_overs_in T.kp_overs_in T.b_overs_in passL (pda_cons (pd_var (pv 1)) pda_nil)) pd_non (nomark _)) (pdss_one pds_no) pdss_nil)
  (pdss_one (pds_fld T.kd T.fl_Wish_form T.nl_Wish (pv 0) (pd_var (pv 1))))))), enter_R (p := 2) rfl (by decide) (by rw [q_Wish___init__] at h; exact h)⟩
theorem ok_Ratio___str__ (T : Txt K mg base A x) : FnOk P w K mg base (L2.CX P w) 1 x.f_Ratio___str__ x.d_Ratio___str__ ["self"] (spF K A F_Ratio___str__ 1) := by
  refine SL.fun_ok T.F_Ratio___str__ sc_Ratio___str__ (fun vs H Q E h => h.1) (fun cdv Ar outer s H vs Q E hr h => ?_)
  exact ⟨liftS K A none mm_Ratio___str__, (by unfold mm_Ratio___str__; exact ((pdss_cons (pds_if (pdt_cmp (o_eq hr.units o_no) (pd_fld T.kd T.fl_Ratio_bottom (pd_var (pv 0))) pd_int (nomark _)) (pdss_one (pds_ret (pd_joined1 (pd_fmt (pd_fld T.kd T.fl_Ratio_top (pd_var (pv 0))))))) pdss_nil)
  (pdss_one (pds_ret (pd_joined (pdj_cons (pd_fmt (pd_fld T.kd T.fl_Ratio_top (pd_var (pv 0)))) (pdj_cons (pd_str (by decide +kernel)) (pdj_cons (pd_fmt (pd_fld T.kd T.fl_Ratio_bottom (pd_var (pv 0)))) pdj_nil))))))))), enter_F (p := 1) rfl (by decide) (by rw [q_Ratio___str__] at h; exact h)⟩
theorem ok_Ratio___init__ (T : Txt K mg base A x) : FnOk P w K mg base (L2.CX P w) 3 x.f_Ratio___init__ x.d_Ratio___init__ ["self", "top", "bottom"] (spR K A F_Ratio___init__ 3 0) := by
  refine SL.funD_ok T.F_Ratio___init__ sc_Ratio___init__ (fun vs H Q E h => h.1) (fun cdv Ar outer s H vs Q E hr h => ?_)
  exact ⟨liftS K A (some 0) mm_Ratio___init__, (by unfold mm_Ratio___init__ mt_Ratio___init___3 mt_Ratio___init___2 mt_Ratio___init___1; exact ((pdss_cons (pds_if (pdt_not (pdt_val (pd_call hl_is_integer (ok_is_integer T) (hr.mono (by decide)) rfl T.g_is_integer T.kp_is_integer T.b_is_integer passL (pda_cons (pd_var (pv 1)) pda_nil)))) (pdss_one pds_no) pdss_nil)
  (pdss_cons (pds_if (pdt_w (pdw_or (pdt_not (pdt_val (pd_call hl_is_integer (ok_is_integer T) (hr.mono (by decide)) rfl T.g_is_integer T.kp_is_integer T.b_is_integer passL (pda_cons (pd_var (pv 2)) pda_nil)))) (pdw_or1 (pdt_cmp o_lt (pd_var (pv 2)) pd_int (nomark _))))) (pdss_one pds_no) pdss_nil)
  (pdss_cons (pds_set (i := 3) sc_Ratio___init__.nd rfl (unop% fd lr) (pd_call hl_shared_factor (ok_shared_factor T) (hr.mono (by decide)) rfl T.g_shared_factor T.kp_shared_factor T.b_shared_factor passL (pda_cons (pd_var (pv 1)) (pda_cons (pd_var (pv 2)) pda_nil))) (fun _ => by decide))
  (pdss_cons (pds_fld T.kd T.fl_Ratio_top T.nl_Ratio (pv 0) (pd_bin o_fdiv (pd_var (pv 1)) (pd_var (pv 3))))
  (pdss_one (pds_fld T.kd T.fl_Ratio_bottom T.nl_Ratio (pv 0) (pd_bin o_fdiv (pd_var (pv 2)) (pd_var (pv 3))))))))))), enter_R (p := 3) rfl (by decide) (by rw [q_Ratio___init__] at h; exact h)⟩
theorem ok_more_of (T : Txt K mg base A x) : FnOk P w K mg base (L2.CX P w) 6 x.f_more_of x.d_more_of ["value"] (spF K A F_more_of 1) := by
  refine SL.fun_ok T.F_more_of sc_more_of (fun vs H Q E h => h.1) (fun cdv Ar outer s H vs Q E hr h => ?_)
  exact ⟨liftS K A none mm_more_of, (by unfold mm_more_of; exact ((pdss_one (pds_ret (pd_if (pdt_val (pd_call hl_is_integer (ok_is_integer T) (hr.mono (by decide)) rfl T.g_is_integer T.kp_is_integer T.b_is_integer passL (pda_cons (pd_var (pv 0)) pda_nil))) (pd_make T.in_Ratio hi_Ratio___init__ (fun _ => (.cons (.int 1) .nil)) T.mk_Ratio (ok_Ratio___init__ T) (hr.mono (by decide)) rfl T.g_Ratio (T.bd_Ratio___init___1).choose_spec.2 (T.bd_Ratio___init___1).choose_spec.1 passL (pda_cons (pd_var (pv 0)) pda_nil)) (pd_make T.in_Ratio hi_Ratio___init__ (fun _ => .nil) T.mk_Ratio (ok_Ratio___init__ T) (hr.mono (by decide)) rfl T.g_Ratio T.b_Ratio___init__ .nil passL (pda_cons (pd_borix hr.units1 (pv 0) pd_int (fun _ _ => rfl)) (pda_cons (pd_borix hr.units1 (pv 0) pd_int (fun _ _ => rfl)) pda_nil)))))))), enter_F (p := 1) rfl (by decide) (by rw [q_more_of] at h; exact h)⟩
theorem ok_text_of_level (T : Txt K mg base A x) : FnOk P w K mg base (L2.CX P w) 1 x.f_text_of_level x.d_text_of_level ["level"] (spF K A F_text_of_level 1) := by
  refine SL.fun_ok T.F_text_of_level sc_text_of_level (fun vs H Q E h => h.1) (fun cdv Ar outer s H vs Q E hr h => ?_)
  exact ⟨liftS K A none mm_text_of_level, (by unfold mm_text_of_level; exact ((pdss_cons (pds_if (pdt_cmp (o_eq hr.units o_no) (pd_borix hr.units1 (pv 0) pd_int (fun _ _ => rfl)) (pd_str (by decide +kernel)) (nomark _)) (pdss_one (pds_ret (pd_str (by decide +kernel)))) pdss_nil)
  (pdss_one (pds_ret (pd_if (pdt_cmp (o_eq hr.units o_no) (pd_borix hr.units1 (pv 0) pd_int (fun _ _ => rfl)) (pd_str (by decide +kernel)) (nomark _)) (pd_borix hr.units1 (pv 0) pd_int (fun _ _ => rfl)) (pd_joined (pdj_cons (pd_fmt (pd_borix hr.units1 (pv 0) pd_int (fun _ _ => rfl))) (pdj_cons (pd_str (by decide +kernel)) (pdj_cons (pd_fmt (pd_borix hr.units1 (pv 0) pd_int (fun _ _ => rfl))) pdj_nil)))))))))), enter_F (p := 1) rfl (by decide) (by rw [q_text_of_level] at h; exact h)⟩
theorem ok_text_of_r0 (T : Txt K mg base A x) : FnOk P w K mg base (L2.CX P w) 1 x.f_text_of_r0 x.d_text_of_r0 ["form"] (spF K A F_text_of_r0 1) := by
  refine SL.fun_ok T.F_text_of_r0 sc_text_of_r0 (fun vs H Q E h => h.1) (fun cdv Ar outer s H vs Q E hr h => ?_)
  exfalso
  obtain ⟨_, _, _, _, _, _, z, _⟩ := h
  cases z
theorem ok_text_of_r1 (T : Txt K mg base A x) : FnOk P w K mg base (L2.CX P w) 8 x.f_text_of_r1 x.d_text_of_r1 ["form"] (spF K A F_text_of_r1 1) := by
  refine SL.fun_ok T.F_text_of_r1 sc_text_of_r1 (fun vs H Q E h => h.1) (fun cdv Ar outer s H vs Q E hr h => ?_)
  exact ⟨liftS K A none (mm_text_of F_text_of_r0), (by unfold mm_text_of; exact ((pdss_cons (pds_if (pdt_cmp (o_eq hr.units o_no) (pd_borix hr.units1 (pv 0) pd_int (fun _ _ => rfl)) (pd_str (by decide +kernel)) (nomark _)) (pdss_cons (pds_set (i := 1) sc_text_of_r1.nd rfl (unop% fd lr) (pd_bin (o_add o_no) (pd_bin (o_add o_no) (pd_call hl_text_of_level (ok_text_of_level T) (hr.mono (by decide)) rfl T.g_text_of_level T.kp_text_of_level T.b_text_of_level passL (pda_cons (pd_borix hr.units1 (pv 0) pd_int (fun _ _ => rfl)) pda_nil)) (pd_str (by decide +kernel))) (pd_call hl_text_of_level (ok_text_of_level T) (hr.mono (by decide)) rfl T.g_text_of_level T.kp_text_of_level T.b_text_of_level passL (pda_cons (pd_borix hr.units1 (pv 0) pd_int (fun _ _ => rfl)) pda_nil))) (fun _ => by decide))
  (pdss_one (pds_ret (pd_bin (o_add o_no) (pd_bin (o_add o_no) (pd_bin (o_add o_no) (pd_bin (o_add o_no) (pd_str (by decide +kernel)) (pd_var (pv 1))) (pd_str (by decide +kernel))) (pd_callTy (o_str (o_strG T.o_Ratio_str (ok_Ratio___str__ T) (hr.mono (by decide)) T.b_Ratio___str__ passL)) (by rfl) T.n_str (by decide +kernel) (pda_cons (pd_call hl_more_of (ok_more_of T) (hr.mono (by decide)) rfl T.g_more_of T.kp_more_of T.b_more_of passL (pda_cons (pd_borix hr.units1 (pv 0) pd_int (fun _ _ => rfl)) pda_nil)) pda_nil))) (pd_str (by decide +kernel)))))) pdss_nil)
  (pdss_one (pds_ret (pd_bin (o_add o_no) (pd_bin (o_add o_no) (pd_str (by decide +kernel)) (pd_join (pd_str (by decide +kernel)) (pd_bin (o_add o_no) (pd_lst (pda_cons (pd_borix hr.units1 (pv 0) pd_int (fun _ _ => rfl)) pda_nil)) (pd_lc (by decide) (pe_lc (own := [("each", 2)]) rfl sc_text_of_r1.nd (pdi_val (pd_slice (pd_var (pv 0)) (pdo_some pd_int) pdo_none)) (blkOk_by (own := [("each", 2)]) (N := nm_text_of_r1) (sc := defScope st_text_of_r1) (by decide +kernel)) (fun _ _ _ _ _ => (pdg_name (pg_name (i := 2) sc_text_of_r1.nd rfl (unop% fd lr)))) (fun _ _ _ _ _ => pdts_nil) (fun _ _ _ _ _ => (pd_call hl_text_of_r0 (ok_text_of_r0 T) (hr.mono (by decide)) rfl T.g_text_of_r0 T.kp_text_of_r0 T.b_text_of_r0 passL (pda_cons (pd_var (pv 2)) pda_nil)))))) (fun h a b => pe_m1 PySem.F.slot_str_join PySem.F.type_str_join h a b))) (pd_str (by decide +kernel)))))))), enter_F (p := 1) rfl (by decide) (by rw [q_text_of_r1] at h; exact h)⟩
theorem ok_text_of_r2 (T : Txt K mg base A x) : FnOk P w K mg base (L2.CX P w) 10 x.f_text_of_r2 x.d_text_of_r2 ["form"] (spF K A F_text_of_r2 1) := by
  refine SL.fun_ok T.F_text_of_r2 sc_text_of_r2 (fun vs H Q E h => h.1) (fun cdv Ar outer s H vs Q E hr h => ?_)
  exact ⟨liftS K A none (mm_text_of F_text_of_r1), (by unfold mm_text_of; exact ((pdss_cons (pds_if (pdt_cmp (o_eq hr.units o_no) (pd_borix hr.units1 (pv 0) pd_int (fun _ _ => rfl)) (pd_str (by decide +kernel)) (nomark _)) (pdss_cons (pds_set (i := 1) sc_text_of_r2.nd rfl (unop% fd lr) (pd_bin (o_add o_no) (pd_bin (o_add o_no) (pd_call hl_text_of_level (ok_text_of_level T) (hr.mono (by decide)) rfl T.g_text_of_level T.kp_text_of_level T.b_text_of_level passL (pda_cons (pd_borix hr.units1 (pv 0) pd_int (fun _ _ => rfl)) pda_nil)) (pd_str (by decide +kernel))) (pd_call hl_text_of_level (ok_text_of_level T) (hr.mono (by decide)) rfl T.g_text_of_level T.kp_text_of_level T.b_text_of_level passL (pda_cons (pd_borix hr.units1 (pv 0) pd_int (fun _ _ => rfl)) pda_nil))) (fun _ => by decide))
  (pdss_one (pds_ret (pd_bin (o_add o_no) (pd_bin (o_add o_no) (pd_bin (o_add o_no) (pd_bin (o_add o_no) (pd_str (by decide +kernel)) (pd_var (pv 1))) (pd_str (by decide +kernel))) (pd_callTy (o_str (o_strG T.o_Ratio_str (ok_Ratio___str__ T) (hr.mono (by decide)) T.b_Ratio___str__ passL)) (by rfl) T.n_str (by decide +kernel) (pda_cons (pd_call hl_more_of (ok_more_of T) (hr.mono (by decide)) rfl T.g_more_of T.kp_more_of T.b_more_of passL (pda_cons (pd_borix hr.units1 (pv 0) pd_int (fun _ _ => rfl)) pda_nil)) pda_nil))) (pd_str (by decide +kernel)))))) pdss_nil)
  (pdss_one (pds_ret (pd_bin (o_add o_no) (pd_bin (o_add o_no) (pd_str (by decide +kernel)) (pd_join (pd_str (by decide +kernel)) (pd_bin (o_add o_no) (pd_lst (pda_cons (pd_borix hr.units1 (pv 0) pd_int (fun _ _ => rfl)) pda_nil)) (pd_lc (by decide) (pe_lc (own := [("each", 2)]) rfl sc_text_of_r2.nd (pdi_val (pd_slice (pd_var (pv 0)) (pdo_some pd_int) pdo_none)) (blkOk_by (own := [("each", 2)]) (N := nm_text_of_r2) (sc := defScope st_text_of_r2) (by decide +kernel)) (fun _ _ _ _ _ => (pdg_name (pg_name (i := 2) sc_text_of_r2.nd rfl (unop% fd lr)))) (fun _ _ _ _ _ => pdts_nil) (fun _ _ _ _ _ => (pd_call hl_text_of_r1 (ok_text_of_r1 T) (hr.mono (by decide)) rfl T.g_text_of_r1 T.kp_text_of_r1 T.b_text_of_r1 passL (pda_cons (pd_var (pv 2)) pda_nil)))))) (fun h a b => pe_m1 PySem.F.slot_str_join PySem.F.type_str_join h a b))) (pd_str (by decide +kernel)))))))), enter_F (p := 1) rfl (by decide) (by rw [q_text_of_r2] at h; exact h)⟩
theorem ok_text_of_r3 (T : Txt K mg base A x) : FnOk P w K mg base (L2.CX P w) 12 x.f_text_of_r3 x.d_text_of_r3 ["form"] (spF K A F_text_of_r3 1) := by
  refine SL.fun_ok T.F_text_of_r3 sc_text_of_r3 (fun vs H Q E h => h.1) (fun cdv Ar outer s H vs Q E hr h => ?_)
  exact ⟨liftS K A none (mm_text_of F_text_of_r2), (by unfold mm_text_of; exact ((pdss_cons (pds_if (pdt_cmp (o_eq hr.units o_no) (pd_borix hr.units1 (pv 0) pd_int (fun _ _ => rfl)) (pd_str (by decide +kernel)) (nomark _)) (pdss_cons (pds_set (i := 1) sc_text_of_r3.nd rfl (unop% fd lr) (pd_bin (o_add o_no) (pd_bin (o_add o_no) (pd_call hl_text_of_level (ok_text_of_level T) (hr.mono (by decide)) rfl T.g_text_of_level T.kp_text_of_level T.b_text_of_level passL (pda_cons (pd_borix hr.units1 (pv 0) pd_int (fun _ _ => rfl)) pda_nil)) (pd_str (by decide +kernel))) (pd_call hl_text_of_level (ok_text_of_level T) (hr.mono (by decide)) rfl T.g_text_of_level T.kp_text_of_level T.b_text_of_level passL (pda_cons (pd_borix hr.units1 (pv 0) pd_int (fun _ _ => rfl)) pda_nil))) (fun _ => by decide))
  (pdss_one (pds_ret (pd_bin (o_add o_no) (pd_bin (o_add o_no) (pd_bin (o_add o_no) (pd_bin (o_add o_no) (pd_str (by decide +kernel)) (pd_var (pv 1))) (pd_str (by decide +kernel))) (pd_callTy (o_str (o_strG T.o_Ratio_str (ok_Ratio___str__ T) (hr.mono (by decide)) T.b_Ratio___str__ passL)) (by rfl) T.n_str (by decide +kernel) (pda_cons (pd_call hl_more_of (ok_more_of T) (hr.mono (by decide)) rfl T.g_more_of T.kp_more_of T.b_more_of passL (pda_cons (pd_borix hr.units1 (pv 0) pd_int (fun _ _ => rfl)) pda_nil)) pda_nil))) (pd_str (by decide +kernel)))))) pdss_nil)
  (pdss_one (pds_ret (pd_bin (o_add o_no) (pd_bin (o_add o_no) (pd_str (by decide +kernel)) (pd_join (pd_str (by decide +kernel)) (pd_bin (o_add o_no) (pd_lst (pda_cons (pd_borix hr.units1 (pv 0) pd_int (fun _ _ => rfl)) pda_nil)) (pd_lc (by decide) (pe_lc (own := [("each", 2)]) rfl sc_text_of_r3.nd (pdi_val (pd_slice (pd_var (pv 0)) (pdo_some pd_int) pdo_none)) (blkOk_by (own := [("each", 2)]) (N := nm_text_of_r3) (sc := defScope st_text_of_r3) (by decide +kernel)) (fun _ _ _ _ _ => (pdg_name (pg_name (i := 2) sc_text_of_r3.nd rfl (unop% fd lr)))) (fun _ _ _ _ _ => pdts_nil) (fun _ _ _ _ _ => (pd_call hl_text_of_r2 (ok_text_of_r2 T) (hr.mono (by decide)) rfl T.g_text_of_r2 T.kp_text_of_r2 T.b_text_of_r2 passL (pda_cons (pd_var (pv 2)) pda_nil)))))) (fun h a b => pe_m1 PySem.F.slot_str_join PySem.F.type_str_join h a b))) (pd_str (by decide +kernel)))))))), enter_F (p := 1) rfl (by decide) (by rw [q_text_of_r3] at h; exact h)⟩
theorem ok_Wish___str__ (T : Txt K mg base A x) : FnOk P w K mg base (L2.CX P w) 14 x.f_Wish___str__ x.d_Wish___str__ ["self"] (spF K A F_Wish___str__ 1) := by
  refine SL.fun_ok T.F_Wish___str__ sc_Wish___str__ (fun vs H Q E h => h.1) (fun cdv Ar outer s H vs Q E hr h => ?_)
  exact ⟨liftS K A none mm_Wish___str__, (by unfold mm_Wish___str__; exact ((pdss_one (pds_ret (pd_joined1 (pd_fmt (pd_call hl_text_of_r3 (ok_text_of_r3 T) (hr.mono (by decide)) rfl T.g_text_of_r3 T.kp_text_of_r3 T.b_text_of_r3 passL (pda_cons (pd_fld T.kd T.fl_Wish_form (pd_var (pv 0))) pda_nil)))))))), enter_F (p := 1) rfl (by decide) (by rw [q_Wish___str__] at h; exact h)⟩
theorem ok_form_in_r0 (T : Txt K mg base A x) : FnOk P w K mg base (L2.CX P w) 1 x.f_form_in_r0 x.d_form_in_r0 ["value", "room"] (spF K A F_form_in_r0 2) := by
  refine SL.fun_ok T.F_form_in_r0 sc_form_in_r0 (fun vs H Q E h => h.1) (fun cdv Ar outer s H vs Q E hr h => ?_)
  exfalso
  obtain ⟨_, _, _, _, _, _, z, _⟩ := h
  cases z
theorem ok_level_in (T : Txt K mg base A x) : FnOk P w K mg base (L2.CX P w) 3 x.f_level_in x.d_level_in ["text"] (spF K A F_level_in 1) := by
  refine SL.fun_ok T.F_level_in sc_level_in (fun vs H Q E h => h.1) (fun cdv Ar outer s H vs Q E hr h => ?_)
  exact ⟨liftS K A none mm_level_in, (by unfold mm_level_in mt_level_in_3 mt_level_in_2 mt_level_in_1; exact ((pdss_cons (pds_if (pdt_cmp (o_eq hr.units o_no) (pd_var (pv 0)) (pd_str (by decide +kernel)) (nomark _)) (pdss_one (pds_ret (pd_tup (pda_cons (pd_str (by decide +kernel)) pda_nil)))) pdss_nil)
  (pdss_cons (pds_asgT (pd_partition (pd_var (pv 0)) (pd_str (by decide +kernel)) (fun h1 h2 => pe_partition h1 h2)) (pdg_tup rfl (pdgs_cons (pdg_name (pg_name (i := 1) sc_level_in.nd rfl (unop% fd lr))) (pdgs_cons (pdg_name (pg_name (i := 2) sc_level_in.nd rfl (unop% fd lr))) (pdgs_cons (pdg_name (pg_name (i := 3) sc_level_in.nd rfl (unop% fd lr))) pdgs_nil)))))
  (pdss_cons (pds_if (pdt_cmp (o_eq hr.units o_no) (pd_var (pv 2)) (pd_str (by decide +kernel)) (nomark _)) (pdss_one (pds_ret (pd_tup (pda_cons (pd_str (by decide +kernel)) (pda_cons (pd_var (pv 1)) pda_nil))))) pdss_nil)
  (pdss_cons (pds_set (i := 4) sc_level_in.nd rfl (unop% fd lr) (pd_if (pdt_cmp (o_eq hr.units o_no) (pd_var (pv 3)) (pd_str (by decide +kernel)) (nomark _)) (pd_str (by decide +kernel)) (pd_if (pdt_cmp (o_in (u65 hr)) (pd_var (pv 3)) (pd_callTy (o_listS rfl) (by rfl) T.n_list (by decide +kernel) (pda_cons (pd_str (by decide +kernel)) pda_nil)) (by with_unfolding_all rfl)) (pd_callTy o_intS (by rfl) T.n_int (by decide +kernel) (pda_cons (pd_var (pv 3)) pda_nil)) pd_non)) (fun _ => by decide))
  (pdss_one (pds_ret (pd_tup (pda_cons (pd_if (pdt_val (pd_call hl_are_great (ok_are_great T) (hr.mono (by decide)) rfl T.g_are_great T.kp_are_great T.b_are_great passL (pda_cons (pd_var (pv 1)) (pda_cons pd_int (pda_cons pd_int pda_nil))))) (pd_str (by decide +kernel)) (pd_str (by decide +kernel))) (pda_cons (pd_var (pv 1)) (pda_cons (pd_var (pv 4)) pda_nil)))))))))))), enter_F (p := 1) rfl (by decide) (by rw [q_level_in] at h; exact h)⟩
theorem ok_is_written (T : Txt K mg base A x) : FnOk P w K mg base (L2.CX P w) 1 x.f_is_written x.d_is_written ["text"] (spF K A F_is_written 1) := by
  refine SL.fun_ok T.F_is_written sc_is_written (fun vs H Q E h => h.1) (fun cdv Ar outer s H vs Q E hr h => ?_)
  exact ⟨liftS K A none mm_is_written, (by unfold mm_is_written; exact ((pdss_cons (pds_if (pdt_w (pdw_or (pdt_cmp (o_eq hr.units o_no) (pd_var (pv 0)) (pd_str (by decide +kernel)) (nomark _)) (pdw_or1 (pdt_not (pdt_val (pd_callB (o_all rfl) (by rfl) T.n_all (by decide +kernel) (pda_cons (pd_lc (by decide) (pe_lc (own := [("sign", 1)]) rfl sc_is_written.nd (pdi_val (pd_var (pv 0))) (blkOk_by (own := [("sign", 1)]) (N := nm_is_written) (sc := defScope st_is_written) (by decide +kernel)) (fun _ _ _ _ _ => (pdg_name (pg_name (i := 1) sc_is_written.nd rfl (unop% fd lr)))) (fun _ _ _ _ _ => pdts_nil) (fun _ _ _ _ _ => (pd_cmp (o_in (u65 hr)) (pd_var (pv 1)) (pd_str (by decide +kernel)) (by with_unfolding_all rfl))))) pda_nil))))))) (pdss_one (pds_ret pd_bl)) pdss_nil)
  (pdss_one (pds_ret (pd_or (pd_cmp (o_eq hr.units o_no) (pd_var (pv 0)) (pd_str (by decide +kernel)) (nomark _)) (pd_one (pd_cmp (o_ne hr.units o_noNe) (pd_borix hr.units1 (pv 0) pd_int (fun _ _ => rfl)) (pd_str (by decide +kernel)) (nomark _))))))))), enter_F (p := 1) rfl (by decide) (by rw [q_is_written] at h; exact h)⟩
theorem ok_ratio_in (T : Txt K mg base A x) : FnOk P w K mg base (L2.CX P w) 6 x.f_ratio_in x.d_ratio_in ["text"] (spF K A F_ratio_in 1) := by
  refine SL.fun_ok T.F_ratio_in sc_ratio_in (fun vs H Q E h => h.1) (fun cdv Ar outer s H vs Q E hr h => ?_)
  exact ⟨liftS K A none mm_ratio_in, (by unfold mm_ratio_in mt_ratio_in_3 mt_ratio_in_2 mt_ratio_in_1; exact ((pdss_cons (pds_set (i := 1) sc_ratio_in.nd rfl (unop% fd lr) (pd_if (pdt_cmp (o_eq hr.units o_no) (pd_slice (pd_var (pv 0)) pdo_none (pdo_some pd_int)) (pd_str (by decide +kernel)) (nomark _)) (pd_un (o_neg o_no1) pd_int) pd_int) (fun _ => by decide))
  (pdss_cons (pds_asgT (pd_if (pdt_cmp o_lt (pd_var (pv 1)) pd_int (nomark _)) (pd_partition (pd_slice (pd_var (pv 0)) (pdo_some pd_int) pdo_none) (pd_str (by decide +kernel)) (fun h1 h2 => pe_partition h1 h2)) (pd_partition (pd_var (pv 0)) (pd_str (by decide +kernel)) (fun h1 h2 => pe_partition h1 h2))) (pdg_tup rfl (pdgs_cons (pdg_name (pg_name (i := 2) sc_ratio_in.nd rfl (unop% fd lr))) (pdgs_cons (pdg_name (pg_name (i := 3) sc_ratio_in.nd rfl (unop% fd lr))) (pdgs_cons (pdg_name (pg_name (i := 4) sc_ratio_in.nd rfl (unop% fd lr))) pdgs_nil)))))
  (pdss_cons (pds_if (pdt_w (pdw_or (pdt_not (pdt_val (pd_call hl_is_written (ok_is_written T) (hr.mono (by decide)) rfl T.g_is_written T.kp_is_written T.b_is_written passL (pda_cons (pd_var (pv 2)) pda_nil)))) (pdw_or1 (pdt_w (pdw_and (pdt_cmp (o_ne hr.units o_noNe) (pd_var (pv 3)) (pd_str (by decide +kernel)) (nomark _)) (pdw_and1 (pdt_not (pdt_val (pd_call hl_is_written (ok_is_written T) (hr.mono (by decide)) rfl T.g_is_written T.kp_is_written T.b_is_written passL (pda_cons (pd_var (pv 4)) pda_nil)))))))))) (pdss_one (pds_ret pd_non)) pdss_nil)
  (pdss_cons (pds_set (i := 5) sc_ratio_in.nd rfl (unop% fd lr) (pd_if (pdt_cmp (o_ne hr.units o_noNe) (pd_var (pv 3)) (pd_str (by decide +kernel)) (nomark _)) (pd_callTy o_intS (by rfl) T.n_int (by decide +kernel) (pda_cons (pd_var (pv 4)) pda_nil)) pd_int) (fun _ => by decide))
  (pdss_one (pds_ret (pd_if (pdt_cmp o_gt (pd_var (pv 5)) pd_int (nomark _)) (pd_make T.in_Ratio hi_Ratio___init__ (fun _ => .nil) T.mk_Ratio (ok_Ratio___init__ T) (hr.mono (by decide)) rfl T.g_Ratio T.b_Ratio___init__ .nil passL (pda_cons (pd_bin (o_mul o_no) (pd_var (pv 1)) (pd_callTy o_intS (by rfl) T.n_int (by decide +kernel) (pda_cons (pd_var (pv 2)) pda_nil))) (pda_cons (pd_var (pv 5)) pda_nil))) pd_non))))))))), enter_F (p := 1) rfl (by decide) (by rw [q_ratio_in] at h; exact h)⟩
theorem ok_more_in (T : Txt K mg base A x) : FnOk P w K mg base (L2.CX P w) 8 x.f_more_in x.d_more_in ["word"] (spF K A F_more_in 1) := by
  refine SL.fun_ok T.F_more_in sc_more_in (fun vs H Q E h => h.1) (fun cdv Ar outer s H vs Q E hr h => ?_)
  exact ⟨liftS K A none mm_more_in, (by unfold mm_more_in mt_more_in_1; exact ((pdss_cons (pds_set (i := 1) sc_more_in.nd rfl (unop% fd lr) (pd_if (pdt_val (pd_callB (o_isi T.kd) (by rfl) T.n_isinstance (by decide +kernel) (pda_cons (pd_var (pv 0)) (pda_cons (pd_c (pe_bltn (v := .ty "str") (by rfl) T.n_str (by decide +kernel) rfl) fun _ => .ty .str) pda_nil)))) (pd_call hl_ratio_in (ok_ratio_in T) (hr.mono (by decide)) rfl T.g_ratio_in T.kp_ratio_in T.b_ratio_in passL (pda_cons (pd_var (pv 0)) pda_nil)) pd_non) (fun _ => by decide))
  (pdss_cons (pds_if (pdt_cmp o_isN (pd_var (pv 1)) pd_non (nomark _)) (pdss_one (pds_ret pd_non)) pdss_nil)
  (pdss_one (pds_ret (pd_if (pdt_cmp (o_eq hr.units o_no) (pd_fld T.kd T.fl_Ratio_bottom (pd_var (pv 1))) pd_int (nomark _)) (pd_fld T.kd T.fl_Ratio_top (pd_var (pv 1))) (pd_tup (pda_cons (pd_fld T.kd T.fl_Ratio_top (pd_var (pv 1))) (pda_cons (pd_fld T.kd T.fl_Ratio_bottom (pd_var (pv 1))) pda_nil)))))))))), enter_F (p := 1) rfl (by decide) (by rw [q_more_in] at h; exact h)⟩
theorem ok_form_in_r1 (T : Txt K mg base A x) : FnOk P w K mg base (L2.CX P w) 10 x.f_form_in_r1 x.d_form_in_r1 ["value", "room"] (spF K A F_form_in_r1 2) := by
  refine SL.fun_ok T.F_form_in_r1 sc_form_in_r1 (fun vs H Q E h => h.1) (fun cdv Ar outer s H vs Q E hr h => ?_)
  exact ⟨liftS K A none (mm_form_in F_form_in_r0), (by unfold mm_form_in mt_form_in_2 mt_form_in_1; exact ((pdss_cons (pds_if (pdt_w (pdw_or (pdt_not (pdt_val (pd_callB (o_isi T.kd) (by rfl) T.n_isinstance (by decide +kernel) (pda_cons (pd_var (pv 0)) (pda_cons (pd_c (pe_bltn (v := .ty "tuple") (by rfl) T.n_tuple (by decide +kernel) rfl) fun _ => .ty .tuple) pda_nil))))) (pdw_or (pdt_cmp (o_eq hr.units o_no) (pd_var (pv 0)) (pd_tup pda_nil) (nomark _)) (pdw_or1 (pdt_not (pdt_val (pd_callB (o_isi T.kd) (by rfl) T.n_isinstance (by decide +kernel) (pda_cons (pd_borix hr.units1 (pv 0) pd_int (fun _ _ => rfl)) (pda_cons (pd_c (pe_bltn (v := .ty "str") (by rfl) T.n_str (by decide +kernel) rfl) fun _ => .ty .str) pda_nil))))))))) (pdss_one (pds_ret pd_non)) pdss_nil)
  (pdss_cons (pds_if (pdt_cmp (o_eq hr.units o_no) (pd_borix hr.units1 (pv 0) pd_int (fun _ _ => rfl)) (pd_str (by decide +kernel)) (nomark _)) (pdss_cons (pds_setlc (by decide) (ps_setLc (i := 2) (own := [("word", 3)]) rfl sc_form_in_r1.nd rfl rfl (sw_true rfl rfl rfl (by decide +kernel)) (pdi_val (pd_slice (pd_var (pv 0)) (pdo_some pd_int) (pdo_some pd_int))) (blkOk_by (own := [("word", 3)]) (N := nm_form_in_r1) (sc := defScope st_form_in_r1) (by decide +kernel)) (fun _ _ _ _ _ => (pdg_name (pg_name (i := 3) sc_form_in_r1.nd rfl (unop% fd lr)))) (fun _ _ _ _ _ => pdts_nil) (fun _ _ _ _ _ => (pd_if (pdt_val (pd_callB (o_isi T.kd) (by rfl) T.n_isinstance (by decide +kernel) (pda_cons (pd_var (pv 3)) (pda_cons (pd_c (pe_bltn (v := .ty "str") (by rfl) T.n_str (by decide +kernel) rfl) fun _ => .ty .str) pda_nil)))) (pd_call hl_level_in (ok_level_in T) (hr.mono (by decide)) rfl T.g_level_in T.kp_level_in T.b_level_in passL (pda_cons (pd_var (pv 3)) pda_nil)) pd_non))) (fun _ => by decide))
  (pdss_one (pds_ret (pd_bin (o_add o_no) (pd_bin (o_add o_no) (pd_tup (pda_cons (pd_str (by decide +kernel)) pda_nil)) (pd_callTy o_tuple (by rfl) T.n_tuple (by decide +kernel) (pda_cons (pd_var (pv 2)) pda_nil))) (pd_callTy o_tuple (by rfl) T.n_tuple (by decide +kernel) (pda_cons (pd_lc (by decide) (pe_lc (own := [("word", 3)]) rfl sc_form_in_r1.nd (pdi_val (pd_slice (pd_var (pv 0)) (pdo_some pd_int) pdo_none)) (blkOk_by (own := [("word", 3)]) (N := nm_form_in_r1) (sc := defScope st_form_in_r1) (by decide +kernel)) (fun _ _ _ _ _ => (pdg_name (pg_name (i := 3) sc_form_in_r1.nd rfl (unop% fd lr)))) (fun _ _ _ _ _ => pdts_nil) (fun _ _ _ _ _ => (pd_call hl_more_in (ok_more_in T) (hr.mono (by decide)) rfl T.g_more_in T.kp_more_in T.b_more_in passL (pda_cons (pd_var (pv 3)) pda_nil))))) pda_nil)))))) pdss_nil)
  (pdss_cons (pds_if (pdt_cmp (o_eq hr.units o_no) (pd_var (pv 1)) pd_int (nomark _)) (pdss_one (pds_ret pd_non)) pdss_nil)
  (pdss_one (pds_ret (pd_bin (o_add o_no) (pd_slice (pd_var (pv 0)) pdo_none (pdo_some pd_int)) (pd_callTy o_tuple (by rfl) T.n_tuple (by decide +kernel) (pda_cons (pd_lc (by decide) (pe_lc (own := [("each", 4)]) rfl sc_form_in_r1.nd (pdi_val (pd_slice (pd_var (pv 0)) (pdo_some pd_int) pdo_none)) (blkOk_by (own := [("each", 4)]) (N := nm_form_in_r1) (sc := defScope st_form_in_r1) (by decide +kernel)) (fun _ _ _ _ _ => (pdg_name (pg_name (i := 4) sc_form_in_r1.nd rfl (unop% fd lr)))) (fun _ _ _ _ _ => pdts_nil) (fun _ _ _ _ _ => (pd_call hl_form_in_r0 (ok_form_in_r0 T) (hr.mono (by decide)) rfl T.g_form_in_r0 T.kp_form_in_r0 T.b_form_in_r0 passL (pda_cons (pd_var (pv 4)) (pda_cons (pd_bin (o_sub o_no) (pd_var (pv 1)) pd_int) pda_nil)))))) pda_nil)))))))))), enter_F (p := 2) rfl (by decide) (by rw [q_form_in_r1] at h; exact h)⟩
theorem ok_form_in_r2 (T : Txt K mg base A x) : FnOk P w K mg base (L2.CX P w) 12 x.f_form_in_r2 x.d_form_in_r2 ["value", "room"] (spF K A F_form_in_r2 2) := by
  refine SL.fun_ok T.F_form_in_r2 sc_form_in_r2 (fun vs H Q E h => h.1) (fun cdv Ar outer s H vs Q E hr h => ?_)
  exact ⟨liftS K A none (mm_form_in F_form_in_r1), (by unfold mm_form_in mt_form_in_2 mt_form_in_1; exact ((pdss_cons (pds_if (pdt_w (pdw_or (pdt_not (pdt_val (pd_callB (o_isi T.kd) (by rfl) T.n_isinstance (by decide +kernel) (pda_cons (pd_var (pv 0)) (pda_cons (pd_c (pe_bltn (v := .ty "tuple") (by rfl) T.n_tuple (by decide +kernel) rfl) fun _ => .ty .tuple) pda_nil))))) (pdw_or (pdt_cmp (o_eq hr.units o_no) (pd_var (pv 0)) (pd_tup pda_nil) (nomark _)) (pdw_or1 (pdt_not (pdt_val (pd_callB (o_isi T.kd) (by rfl) T.n_isinstance (by decide +kernel) (pda_cons (pd_borix hr.units1 (pv 0) pd_int (fun _ _ => rfl)) (pda_cons (pd_c (pe_bltn (v := .ty "str") (by rfl) T.n_str (by decide +kernel) rfl) fun _ => .ty .str) pda_nil))))))))) (pdss_one (pds_ret pd_non)) pdss_nil)
  (pdss_cons (pds_if (pdt_cmp (o_eq hr.units o_no) (pd_borix hr.units1 (pv 0) pd_int (fun _ _ => rfl)) (pd_str (by decide +kernel)) (nomark _)) (pdss_cons (pds_setlc (by decide) (ps_setLc (i := 2) (own := [("word", 3)]) rfl sc_form_in_r2.nd rfl rfl (sw_true rfl rfl rfl (by decide +kernel)) (pdi_val (pd_slice (pd_var (pv 0)) (pdo_some pd_int) (pdo_some pd_int))) (blkOk_by (own := [("word", 3)]) (N := nm_form_in_r2) (sc := defScope st_form_in_r2) (by decide +kernel)) (fun _ _ _ _ _ => (pdg_name (pg_name (i := 3) sc_form_in_r2.nd rfl (unop% fd lr)))) (fun _ _ _ _ _ => pdts_nil) (fun _ _ _ _ _ => (pd_if (pdt_val (pd_callB (o_isi T.kd) (by rfl) T.n_isinstance (by decide +kernel) (pda_cons (pd_var (pv 3)) (pda_cons (pd_c (pe_bltn (v := .ty "str") (by rfl) T.n_str (by decide +kernel) rfl) fun _ => .ty .str) pda_nil)))) (pd_call hl_level_in (ok_level_in T) (hr.mono (by decide)) rfl T.g_level_in T.kp_level_in T.b_level_in passL (pda_cons (pd_var (pv 3)) pda_nil)) pd_non))) (fun _ => by decide))
  (pdss_one (pds_ret (pd_bin (o_add o_no) (pd_bin (o_add o_no) (pd_tup (pda_cons (pd_str (by decide +kernel)) pda_nil)) (pd_callTy o_tuple (by rfl) T.n_tuple (by decide +kernel) (pda_cons (pd_var (pv 2)) pda_nil))) (pd_callTy o_tuple (by rfl) T.n_tuple (by decide +kernel) (pda_cons (pd_lc (by decide) (pe_lc (own := [("word", 3)]) rfl sc_form_in_r2.nd (pdi_val (pd_slice (pd_var (pv 0)) (pdo_some pd_int) pdo_none)) (blkOk_by (own := [("word", 3)]) (N := nm_form_in_r2) (sc := defScope st_form_in_r2) (by decide +kernel)) (fun _ _ _ _ _ => (pdg_name (pg_name (i := 3) sc_form_in_r2.nd rfl (unop% fd lr)))) (fun _ _ _ _ _ => pdts_nil) (fun _ _ _ _ _ => (pd_call hl_more_in (ok_more_in T) (hr.mono (by decide)) rfl T.g_more_in T.kp_more_in T.b_more_in passL (pda_cons (pd_var (pv 3)) pda_nil))))) pda_nil)))))) pdss_nil)
  (pdss_cons (pds_if (pdt_cmp (o_eq hr.units o_no) (pd_var (pv 1)) pd_int (nomark _)) (pdss_one (pds_ret pd_non)) pdss_nil)
  (pdss_one (pds_ret (pd_bin (o_add o_no) (pd_slice (pd_var (pv 0)) pdo_none (pdo_some pd_int)) (pd_callTy o_tuple (by rfl) T.n_tuple (by decide +kernel) (pda_cons (pd_lc (by decide) (pe_lc (own := [("each", 4)]) rfl sc_form_in_r2.nd (pdi_val (pd_slice (pd_var (pv 0)) (pdo_some pd_int) pdo_none)) (blkOk_by (own := [("each", 4)]) (N := nm_form_in_r2) (sc := defScope st_form_in_r2) (by decide +kernel)) (fun _ _ _ _ _ => (pdg_name (pg_name (i := 4) sc_form_in_r2.nd rfl (unop% fd lr)))) (fun _ _ _ _ _ => pdts_nil) (fun _ _ _ _ _ => (pd_call hl_form_in_r1 (ok_form_in_r1 T) (hr.mono (by decide)) rfl T.g_form_in_r1 T.kp_form_in_r1 T.b_form_in_r1 passL (pda_cons (pd_var (pv 4)) (pda_cons (pd_bin (o_sub o_no) (pd_var (pv 1)) pd_int) pda_nil)))))) pda_nil)))))))))), enter_F (p := 2) rfl (by decide) (by rw [q_form_in_r2] at h; exact h)⟩
theorem ok_form_in_r3 (T : Txt K mg base A x) : FnOk P w K mg base (L2.CX P w) 14 x.f_form_in_r3 x.d_form_in_r3 ["value", "room"] (spF K A F_form_in_r3 2) := by
  refine SL.fun_ok T.F_form_in_r3 sc_form_in_r3 (fun vs H Q E h => h.1) (fun cdv Ar outer s H vs Q E hr h => ?_)
  exact ⟨liftS K A none (mm_form_in F_form_in_r2), (by unfold mm_form_in mt_form_in_2 mt_form_in_1; exact ((pdss_cons (pds_if (pdt_w (pdw_or (pdt_not (pdt_val (pd_callB (o_isi T.kd) (by rfl) T.n_isinstance (by decide +kernel) (pda_cons (pd_var (pv 0)) (pda_cons (pd_c (pe_bltn (v := .ty "tuple") (by rfl) T.n_tuple (by decide +kernel) rfl) fun _ => .ty .tuple) pda_nil))))) (pdw_or (pdt_cmp (o_eq hr.units o_no) (pd_var (pv 0)) (pd_tup pda_nil) (nomark _)) (pdw_or1 (pdt_not (pdt_val (pd_callB (o_isi T.kd) (by rfl) T.n_isinstance (by decide +kernel) (pda_cons (pd_borix hr.units1 (pv 0) pd_int (fun _ _ => rfl)) (pda_cons (pd_c (pe_bltn (v := .ty "str") (by rfl) T.n_str (by decide +kernel) rfl) fun _ => .ty .str) pda_nil))))))))) (pdss_one (pds_ret pd_non)) pdss_nil)
  (pdss_cons (pds_if (pdt_cmp (o_eq hr.units o_no) (pd_borix hr.units1 (pv 0) pd_int (fun _ _ => rfl)) (pd_str (by decide +kernel)) (nomark _)) (pdss_cons (pds_setlc (by decide) (ps_setLc (i := 2) (own := [("word", 3)]) rfl sc_form_in_r3.nd rfl rfl (sw_true rfl rfl rfl (by decide +kernel)) (pdi_val (pd_slice (pd_var (pv 0)) (pdo_some pd_int) (pdo_some pd_int))) (blkOk_by (own := [("word", 3)]) (N := nm_form_in_r3) (sc := defScope st_form_in_r3) (by decide +kernel)) (fun _ _ _ _ _ => (pdg_name (pg_name (i := 3) sc_form_in_r3.nd rfl (unop% fd lr)))) (fun _ _ _ _ _ => pdts_nil) (fun _ _ _ _ _ => (pd_if (pdt_val (pd_callB (o_isi T.kd) (by rfl) T.n_isinstance (by decide +kernel) (pda_cons (pd_var (pv 3)) (pda_cons (pd_c (pe_bltn (v := .ty "str") (by rfl) T.n_str (by decide +kernel) rfl) fun _ => .ty .str) pda_nil)))) (pd_call hl_level_in (ok_level_in T) (hr.mono (by decide)) rfl T.g_level_in T.kp_level_in T.b_level_in passL (pda_cons (pd_var (pv 3)) pda_nil)) pd_non))) (fun _ => by decide))
  (pdss_one (pds_ret (pd_bin (o_add o_no) (pd_bin (o_add o_no) (pd_tup (pda_cons (pd_str (by decide +kernel)) pda_nil)) (pd_callTy o_tuple (by rfl) T.n_tuple (by decide +kernel) (pda_cons (pd_var (pv 2)) pda_nil))) (pd_callTy o_tuple (by rfl) T.n_tuple (by decide +kernel) (pda_cons (pd_lc (by decide) (pe_lc (own := [("word", 3)]) rfl sc_form_in_r3.nd (pdi_val (pd_slice (pd_var (pv 0)) (pdo_some pd_int) pdo_none)) (blkOk_by (own := [("word", 3)]) (N := nm_form_in_r3) (sc := defScope st_form_in_r3) (by decide +kernel)) (fun _ _ _ _ _ => (pdg_name (pg_name (i := 3) sc_form_in_r3.nd rfl (unop% fd lr)))) (fun _ _ _ _ _ => pdts_nil) (fun _ _ _ _ _ => (pd_call hl_more_in (ok_more_in T) (hr.mono (by decide)) rfl T.g_more_in T.kp_more_in T.b_more_in passL (pda_cons (pd_var (pv 3)) pda_nil))))) pda_nil)))))) pdss_nil)
  (pdss_cons (pds_if (pdt_cmp (o_eq hr.units o_no) (pd_var (pv 1)) pd_int (nomark _)) (pdss_one (pds_ret pd_non)) pdss_nil)
  (pdss_one (pds_ret (pd_bin (o_add o_no) (pd_slice (pd_var (pv 0)) pdo_none (pdo_some pd_int)) (pd_callTy o_tuple (by rfl) T.n_tuple (by decide +kernel) (pda_cons (pd_lc (by decide) (pe_lc (own := [("each", 4)]) rfl sc_form_in_r3.nd (pdi_val (pd_slice (pd_var (pv 0)) (pdo_some pd_int) pdo_none)) (blkOk_by (own := [("each", 4)]) (N := nm_form_in_r3) (sc := defScope st_form_in_r3) (by decide +kernel)) (fun _ _ _ _ _ => (pdg_name (pg_name (i := 4) sc_form_in_r3.nd rfl (unop% fd lr)))) (fun _ _ _ _ _ => pdts_nil) (fun _ _ _ _ _ => (pd_call hl_form_in_r2 (ok_form_in_r2 T) (hr.mono (by decide)) rfl T.g_form_in_r2 T.kp_form_in_r2 T.b_form_in_r2 passL (pda_cons (pd_var (pv 4)) (pda_cons (pd_bin (o_sub o_no) (pd_var (pv 1)) pd_int) pda_nil)))))) pda_nil)))))))))), enter_F (p := 2) rfl (by decide) (by rw [q_form_in_r3] at h; exact h)⟩
theorem ok_nested (T : Txt K mg base A x) : FnOk P w K mg base (L2.CX P w) 1 x.f_nested x.d_nested ["text"] (spF K A F_nested 1) := by
  refine SL.fun_ok T.F_nested sc_nested (fun vs H Q E h => h.1) (fun cdv Ar outer s H vs Q E hr h => ?_)
  have pO : PassesOwn (model P w) (cxOf (L2.CX P w) P w K mg base nm_nested "nested" (defScope st_nested) x.f_nested cdv Ar outer s H E).A (cxOf (L2.CX P w) P w K mg base nm_nested "nested" (defScope st_nested) x.f_nested cdv Ar outer s H E).env (cxOf (L2.CX P w) P w K mg base nm_nested "nested" (defScope st_nested) x.f_nested cdv Ar outer s H E).xe := passes_of rfl
  have hm := h
  exact ⟨rNest K A mi_nested me_nested_t1 me_nested_e1 me_nested_t2 me_nested_t3 me_nested_t4 me_nested_t5, (by unfold rNest tApp tTop tFst rLn me_nested_t1 me_nested_e1 me_nested_t2 me_nested_t3 me_nested_t4 me_nested_t5 mi_nested; exact ((pss_cons (ps_par rfl sc_nested.nd rfl rfl (by decide) rfl rfl (pa_cons (pe_lst (pa_cons (pe_lst pa_nil) pa_nil)) (pa_cons pe_str pa_nil)) (by rfl))
  (pss_cons (ps_for pO rfl (pdi_val (pd_var (pv 0))) (pdg_name (pg_name (i := 3) sc_nested.nd rfl (unop% fd lr))) (pss_cons (ps_if (pdt_cmp (o_nin (u65 hr)) (pd_var (pv 3)) (pd_str (by decide +kernel)) (by with_unfolding_all rfl)) (pss_cons (ps_asg (pd_bin (o_add o_no) (pd_var (pv 2)) (pd_var (pv 3))) (pg_name (i := 2) sc_nested.nd rfl (unop% fd lr))) (pss_one ps_continue)) pss_nil) (pss_cons (ps_if (pdt_cmp (o_ne hr.units o_noNe) (pd_var (pv 2)) (pd_str (by decide +kernel)) (nomark _)) (pss_cons (ps_expr (pe_bm PySem.F.plainAttrs_list PySem.F.slot_list_append PySem.F.type_list_append mt_append (pe_ix ix_list (pv 1) (pe_un un_neg pe_int) (fun _ _ => rfl)) (pa_cons (pv 2) pa_nil))) (pss_one (ps_asg pe_str (pg_name (i := 2) sc_nested.nd rfl (unop% fd lr))))) pss_nil) (pss_cons (ps_if (pdt_cmp (o_eq hr.units o_no) (pd_var (pv 3)) (pd_str (by decide +kernel)) (nomark _)) (pss_one (ps_expr (pe_bm PySem.F.plainAttrs_list PySem.F.slot_list_append PySem.F.type_list_append mt_append (pv 1) (pa_cons (pe_lst pa_nil) pa_nil)))) pss_nil) (pss_one (ps_if (pdt_cmp (o_eq hr.units o_no) (pd_var (pv 3)) (pd_str (by decide +kernel)) (nomark _)) (pss_cons (ps_if (pt_cmpR op_lt (pe_callB call_len (by rfl) T.n_len (by decide +kernel) (pa_cons (pv 1) pa_nil)) pe_int (nomark _)) (pss_one (ps_ret pe_non)) pss_nil) (pss_cons (ps_asg (pe_callTy o_tuple (by rfl) T.n_tuple (by decide +kernel) (pa_cons (pe_bm0 PySem.F.plainAttrs_list PySem.F.slot_list_pop PySem.F.type_list_pop mt_pop (pv 1)) pa_nil)) (pg_name (i := 4) sc_nested.nd rfl (unop% fd lr))) (pss_one (ps_expr (pe_bm PySem.F.plainAttrs_list PySem.F.slot_list_append PySem.F.type_list_append mt_append (pe_ix ix_list (pv 1) (pe_un un_neg pe_int) (fun _ _ => rfl)) (pa_cons (pv 4) pa_nil)))))) pss_nil))))))
  (pss_cons (ps_if (PW.pt (pw_or (pdt_cmp (o_ne hr.units o_noNe) (pd_var (pv 2)) (pd_str (by decide +kernel)) (nomark _)) (pw_or (pt_cmpR op_ne (pe_callB call_len (by rfl) T.n_len (by decide +kernel) (pa_cons (pv 1) pa_nil)) pe_int (nomark _)) (pw_or (pt_cmpR op_ne (pe_callB call_len (by rfl) T.n_len (by decide +kernel) (pa_cons (pe_ix ix_list (pv 1) pe_int (fun _ _ => rfl)) pa_nil)) pe_int (nomark _)) (pw_or1 (pt_not (pt_val (pe_callB (o_isi T.kd) (by rfl) T.n_isinstance (by decide +kernel) (pa_cons (pe_ix ix_list (pe_ix ix_list (pv 1) pe_int (fun _ _ => rfl)) pe_int (fun _ _ => rfl)) (pa_cons (pe_bltn (v := .ty "tuple") (by rfl) T.n_tuple (by decide +kernel) rfl) pa_nil)))))))))) (pss_one (ps_ret pe_non)) pss_nil)
  (pss_one (ps_ret (pe_ix ix_list (pe_ix ix_list (pv 1) pe_int (fun _ _ => rfl)) pe_int (fun _ _ => rfl))))))))), nest_run rfl nest_parts h⟩
theorem ok_wish_in (T : Txt K mg base A x) : FnOk P w K mg base (L2.CX P w) 16 x.f_wish_in x.d_wish_in ["text"] (spF K A F_wish_in 1) := by
  refine SL.fun_ok T.F_wish_in sc_wish_in (fun vs H Q E h => h.1) (fun cdv Ar outer s H vs Q E hr h => ?_)
  exact ⟨liftS K A none mm_wish_in, (by unfold mm_wish_in mt_wish_in_1; exact ((pdss_cons (pds_set (i := 1) sc_wish_in.nd rfl (unop% fd lr) (pd_if (pdt_w (pdw_and (pdt_val (pd_callB (o_isi T.kd) (by rfl) T.n_isinstance (by decide +kernel) (pda_cons (pd_var (pv 0)) (pda_cons (pd_c (pe_bltn (v := .ty "str") (by rfl) T.n_str (by decide +kernel) rfl) fun _ => .ty .str) pda_nil)))) (pdw_and1 (pdt_cmp o_le (PE.imp (pe_callB (o_lenb o_noN) (by rfl) T.n_len (by decide +kernel) (pa_cons (pv 0) pa_nil)) fun _ _ _ => bor1_use (nf_len nf_no1)) (pd_c (pe_glob (v := .int 2000) rfl T.k_LONGEST.choose_spec ⟨_, rfl⟩) fun _ => .int 2000) (nomark _))))) (pd_call hl_form_in_r3 (ok_form_in_r3 T) (hr.mono (by decide)) rfl T.g_form_in_r3 T.kp_form_in_r3 T.b_form_in_r3 passL (pda_cons (pd_call hl_nested (ok_nested T) (hr.mono (by decide)) rfl T.g_nested T.kp_nested T.b_nested passL (pda_cons (pd_var (pv 0)) pda_nil)) (pda_cons (pd_c (pe_glob (v := .int 4) rfl T.k_MOST_DEPTH.choose_spec ⟨_, rfl⟩) fun _ => .int 4) pda_nil))) pd_non) (fun _ => by decide))
  (pdss_cons (pds_if (pdt_w (pdw_or (pdt_cmp o_isN (pd_call hl_overs_in (ok_overs_in T) (hr.mono (by decide)) rfl T.g_overs_in T.kp_overs_in T.b_overs_in passL (pda_cons (pd_var (pv 1)) pda_nil)) pd_non (nomark _)) (pdw_or1 (pdt_cmp (o_ne hr.units o_noNe) (pd_call hl_text_of_r3 (ok_text_of_r3 T) (hr.mono (by decide)) rfl T.g_text_of_r3 T.kp_text_of_r3 T.b_text_of_r3 passL (pda_cons (pd_var (pv 1)) pda_nil)) (pd_var (pv 0)) (nomark _))))) (pdss_one pds_no) pdss_nil)
  (pdss_one (pds_ret (pd_make T.in_Wish hi_Wish___init__ (fun _ => .nil) T.mk_Wish (ok_Wish___init__ T) (hr.mono (by decide)) rfl T.g_Wish T.b_Wish___init__ .nil passL (pda_cons (pd_var (pv 1)) pda_nil)))))))), enter_F (p := 1) rfl (by decide) (by rw [q_wish_in] at h; exact h)⟩
theorem ok_Wish_read (T : Txt K mg base A x) : FnOk P w K mg base (L2.CX P w) 18 x.f_Wish_read x.d_Wish_read ["text"] (spF K A F_Wish_read 1) := by
  refine SL.fun_ok T.F_Wish_read sc_Wish_read (fun vs H Q E h => h.1) (fun cdv Ar outer s H vs Q E hr h => ?_)
  exact ⟨liftS K A none mm_Wish_read, (by unfold mm_Wish_read; exact ((pdss_one (pds_ret (pd_call hl_wish_in (ok_wish_in T) (hr.mono (by decide)) rfl T.g_wish_in T.kp_wish_in T.b_wish_in passL (pda_cons (pd_var (pv 0)) pda_nil)))))), enter_F (p := 1) rfl (by decide) (by rw [q_Wish_read] at h; exact h)⟩
theorem ok__law_bag (T : Txt K mg base A x) : FnOk P w K mg base (L2.CX P w) 1 x.f__law_bag x.d__law_bag ["_law_cells", "_law_k"] (spF K A F__law_bag 2) := by
  refine SL.fun_ok T.F__law_bag sc__law_bag (fun vs H Q E h => h.1) (fun cdv Ar outer s H vs Q E hr h => ?_)
  have pO : PassesOwn (model P w) (cxOf (L2.CX P w) P w K mg base nm__law_bag "_law_bag" (defScope st__law_bag) x.f__law_bag cdv Ar outer s H E).A (cxOf (L2.CX P w) P w K mg base nm__law_bag "_law_bag" (defScope st__law_bag) x.f__law_bag cdv Ar outer s H E).env (cxOf (L2.CX P w) P w K mg base nm__law_bag "_law_bag" (defScope st__law_bag) x.f__law_bag cdv Ar outer s H E).xe := passes_of rfl
  exact ⟨liftS K A none mm__law_bag, (by unfold mm__law_bag mt__law_bag_3 mt__law_bag_2 mt__law_bag_1; exact ((pdss_cons (pds_par (i := 2) (k := 3) rfl sc__law_bag.nd rfl rfl (by decide) rfl rfl (pd_if (pdt_cmp o_lt (pd_var (pv 1)) (PE.imp (pe_callB (o_lenb o_noN) (by rfl) T.n_len (by decide +kernel) (pa_cons (pv 0) pa_nil)) fun _ _ _ => bor1_use (nf_len nf_no1)) (nomark _)) (pd_callTy o_int (by rfl) T.n_int (by decide +kernel) (pda_cons (pd_borix hr.units1 (pv 0) (pd_var (pv 1)) (fun _ _ => rfl)) pda_nil)) pd_int) (pd_bin (o_mul o_no) pd_int (pd_bin (o_add o_no) (pd_var (pv 1)) pd_int)) (fun _ => by decide) (by rfl))
  (pdss_cons (pds_for pO rfl (pdi_val (pd_slice (pd_var (pv 0)) pdo_none (pdo_some pd_int))) (pdg_name (pg_name (i := 4) sc__law_bag.nd rfl (unop% fd lr))) (pdss_one (pds_set (i := 3) sc__law_bag.nd rfl (unop% fd lr) (pd_bin o_mod (pd_callTy o_int (by rfl) T.n_int (by decide +kernel) (pda_cons (pd_bin (o_add o_no) (pd_bin (o_add o_no) (pd_bin (o_mul o_no) (pd_var (pv 3)) pd_int) (pd_bin o_mod (pd_callTy o_int (by rfl) T.n_int (by decide +kernel) (pda_cons (pd_var (pv 4)) pda_nil)) pd_int)) (pd_bin (o_mul o_no) pd_int (pd_var (pv 1)))) pda_nil)) pd_int) (fun _ => by decide))))
  (pdss_cons (pds_set (i := 5) sc__law_bag.nd rfl (unop% fd lr) (pd_if (pdt_w (pdw_or (pdt_cmp o_lt (pd_var (pv 2)) pd_int (nomark _)) (pdw_or1 (pdt_cmp o_ge (pd_var (pv 2)) (pd_bin o_pow pd_int pd_int) (nomark _))))) (pd_callB o_abs (by rfl) T.n_abs (by decide +kernel) (pda_cons (pd_var (pv 2)) pda_nil)) pd_int) (fun _ => by decide))
  (pdss_one (pds_ret (pd_lst (pda_cons (pd_var (pv 5)) (pda_cons (pd_bin o_mod (pd_callTy o_int (by rfl) T.n_int (by decide +kernel) (pda_cons (pd_bin (o_add o_no) (pd_var (pv 3)) (pd_bin (o_mul o_no) pd_int (pd_bin o_mod (pd_callTy o_int (by rfl) T.n_int (by decide +kernel) (pda_cons (pd_var (pv 2)) pda_nil)) pd_int))) pda_nil)) pd_int) (pda_cons pd_int pda_nil))))))))))), enter_F (p := 2) rfl (by decide) (by rw [q__law_bag] at h; exact h)⟩
theorem ok_Wish___eq__ (T : Txt K mg base A x) : FnOk P w K mg base (L2.CX P w) 1 x.f_Wish___eq__ x.d_Wish___eq__ ["self", "other"] (spF K A F_Wish___eq__ 2) := by
  refine SL.fun_ok T.F_Wish___eq__ sc_Wish___eq__ (fun vs H Q E h => h.1) (fun cdv Ar outer s H vs Q E hr h => ?_)
  exact ⟨liftS K A none mm_Wish___eq__, (by unfold mm_Wish___eq__; exact ((pdss_one (pds_ret (pd_and (pd_callB (o_isi T.kd) (by rfl) T.n_isinstance (by decide +kernel) (pda_cons (pd_var (pv 1)) (pda_cons (pd_c (pe_glob (v := .ref (A.ad 5)) rfl T.g_Wish rfl) fun _ => .cls 5 T.in_Wish) pda_nil))) (pd_one (pd_cmp (o_eq hr.units o_no) (pd_fld T.kd T.fl_Wish_form (pd_var (pv 0))) (pd_fld T.kd T.fl_Wish_form (pd_var (pv 1))) (nomark _)))))))), enter_F (p := 2) rfl (by decide) (by rw [q_Wish___eq__] at h; exact h)⟩
theorem ok__law_draw (T : Txt K mg base A x) : FnOk P w K mg base (L2.CX P w) 1 x.f__law_draw x.d__law_draw ["_law_bag_here", "_law_wide"] (spR K A F__law_draw 2 0) := by
  refine SL.fun_ok T.F__law_draw sc__law_draw (fun vs H Q E h => h.1) (fun cdv Ar outer s H vs Q E hr h => ?_)
  exact ⟨liftS K A (some 0) mm__law_draw, (by unfold mm__law_draw mt__law_draw_5 mt__law_draw_4 mt__law_draw_3 mt__law_draw_2 mt__law_draw_1; exact ((pdss_cons (pds_put hr.units1 (pv 0) pd_int (pd_bin (o_add o_no) (pd_borix hr.units1 (pv 0) pd_int (fun _ _ => rfl)) pd_int))
  (pdss_cons (pds_if (pdt_cmp o_gt (pd_borix hr.units1 (pv 0) pd_int (fun _ _ => rfl)) pd_int (nomark _)) (pdss_cons (pds_set (i := 2) sc__law_draw.nd rfl (unop% fd lr) (pd_bin o_mod (pd_callTy o_int (by rfl) T.n_int (by decide +kernel) (pda_cons (pd_borix hr.units1 (pv 0) pd_int (fun _ _ => rfl)) pda_nil)) (pd_var (pv 1))) (fun _ => by decide))
  (pdss_cons (pds_put hr.units1 (pv 0) pd_int (pd_bin o_fdiv (pd_borix hr.units1 (pv 0) pd_int (fun _ _ => rfl)) (pd_var (pv 1))))
  (pdss_one (pds_retV (pv 2) (by decide))))) pdss_nil)
  (pdss_cons (pds_set (i := 3) sc__law_draw.nd rfl (unop% fd lr) (pd_bin (o_add o_no) (pd_callTy o_int (by rfl) T.n_int (by decide +kernel) (pda_cons (pd_borix hr.units1 (pv 0) pd_int (fun _ _ => rfl)) pda_nil)) (pd_bin (o_mul o_no) pd_int (pd_borix hr.units1 (pv 0) pd_int (fun _ _ => rfl)))) (fun _ => by decide))
  (pdss_cons (pds_set (i := 4) sc__law_draw.nd rfl (unop% fd lr) (pd_bin (o_add o_no) (pd_bin o_mod (pd_callTy o_int (by rfl) T.n_int (by decide +kernel) (pda_cons (pd_var (pv 3)) pda_nil)) pd_int) pd_int) (fun _ => by decide))
  (pdss_cons (pds_put hr.units1 (pv 0) pd_int (pd_bin o_mod (pd_callTy o_int (by rfl) T.n_int (by decide +kernel) (pda_cons (pd_bin (o_add o_no) (pd_bin (o_add o_no) (pd_bin (o_mul o_no) (pd_var (pv 3)) (pd_var (pv 4))) (pd_bin (o_mul o_no) pd_int (pd_borix hr.units1 (pv 0) pd_int (fun _ _ => rfl)))) pd_int) pda_nil)) pd_int))
  (pdss_one (pds_ret (pd_bin o_mod (pd_bin o_fdiv (pd_callTy o_int (by rfl) T.n_int (by decide +kernel) (pda_cons (pd_borix hr.units1 (pv 0) pd_int (fun _ _ => rfl)) pda_nil)) pd_int) (pd_var (pv 1)))))))))))), enter_R (p := 2) rfl (by decide) (by rw [q__law_draw] at h; exact h)⟩
theorem ok__law_one (T : Txt K mg base A x) : FnOk P w K mg base (L2.CX P w) 3 x.f__law_one x.d__law_one ["_law_bag_here", "_law_some"] (spR K A F__law_one 2 0) := by
  refine SL.fun_ok T.F__law_one sc__law_one (fun vs H Q E h => h.1) (fun cdv Ar outer s H vs Q E hr h => ?_)
  exact ⟨liftS K A (some 0) mm__law_one, (by unfold mm__law_one; exact ((pdss_one (pds_ret (pd_borix hr.units1 (pv 1) (pd_callR (ok__law_draw T) rfl rfl (hr.mono (by decide)) rfl T.g__law_draw T.kp__law_draw T.b__law_draw passL (par_nil (pv 0) (pda_cons (PE.imp (pe_callB (o_lenb o_noN) (by rfl) T.n_len (by decide +kernel) (pa_cons (pv 1) pa_nil)) fun _ _ _ => bor1_use (nf_len nf_no1)) pda_nil))) (fun _ _ => rfl)))))), enter_R (p := 2) rfl (by decide) (by rw [q__law_one] at h; exact h)⟩
theorem ok__law_level (T : Txt K mg base A x) : FnOk P w K mg base (L2.CX P w) 5 x.f__law_level x.d__law_level ["_law_bag_here", "_law_shape_here", "_law_far_when"] (spR K A F__law_level 3 0) := by
  refine SL.fun_ok T.F__law_level sc__law_level (fun vs H Q E h => h.1) (fun cdv Ar outer s H vs Q E hr h => ?_)
  exact ⟨liftS K A (some 0) mm__law_level, (by unfold mm__law_level mt__law_level_2 mt__law_level_1; exact ((pdss_cons (pds_par (i := 3) (k := 4) rfl sc__law_level.nd rfl rfl (by decide) rfl rfl (pd_callR (ok__law_draw T) rfl rfl (hr.mono (by decide)) rfl T.g__law_draw T.kp__law_draw T.b__law_draw passL (par_nil (pv 0) (pda_cons pd_int pda_nil))) (pd_callR (ok__law_one T) rfl rfl (hr.mono (by decide)) rfl T.g__law_one T.kp__law_one T.b__law_one passL (par_nil (pv 0) (pda_cons (pd_lst (pda_cons pd_int (pda_cons (pd_var (pv 2)) (pda_cons (pd_callR (ok__law_draw T) rfl rfl (hr.mono (by decide)) rfl T.g__law_draw T.kp__law_draw T.b__law_draw passL (par_nil (pv 0) (pda_cons (pd_bin (o_add o_no) (pd_var (pv 2)) pd_int) pda_nil))) (pda_cons (pd_str (by decide +kernel)) pda_nil))))) pda_nil))) (fun _ => by decide) (by rfl))
  (pdss_cons (pds_if (pdt_cmp o_lt (pd_var (pv 3)) pd_int (nomark _)) (pdss_one (pds_ret (pd_tup (pda_cons (pd_str (by decide +kernel)) (pda_cons (pd_callR (ok__law_one T) rfl rfl (hr.mono (by decide)) rfl T.g__law_one T.kp__law_one T.b__law_one passL (par_nil (pv 0) (pda_cons (pd_borix hr.units1 (pv 1) pd_int (fun _ _ => rfl)) pda_nil))) (pda_cons (pd_var (pv 4)) pda_nil)))))) pdss_nil)
  (pdss_cons (pds_if (pdt_cmp o_lt (pd_var (pv 3)) pd_int (nomark _)) (pdss_one (pds_ret (pd_tup (pda_cons (pd_str (by decide +kernel)) (pda_cons (pd_callR (ok__law_one T) rfl rfl (hr.mono (by decide)) rfl T.g__law_one T.kp__law_one T.b__law_one passL (par_nil (pv 0) (pda_cons (pd_borix hr.units1 (pv 1) pd_int (fun _ _ => rfl)) pda_nil))) (pda_cons (pd_var (pv 4)) pda_nil)))))) pdss_nil)
  (pdss_one (pds_ret (pd_if (pdt_cmp (o_eq hr.units o_no) (pd_var (pv 3)) pd_int (nomark _)) (pd_tup (pda_cons (pd_str (by decide +kernel)) (pda_cons (pd_ix (o_ix hr.units1) (pd_callR (ok__law_one T) rfl rfl (hr.mono (by decide)) rfl T.g__law_one T.kp__law_one T.b__law_one passL (par_nil (pv 0) (pda_cons (pd_borix hr.units1 (pv 1) pd_int (fun _ _ => rfl)) pda_nil))) pd_int (fun _ _ => rfl)) pda_nil))) (pd_tup (pda_cons (pd_str (by decide +kernel)) pda_nil)))))))))), enter_R (p := 3) rfl (by decide) (by rw [q__law_level] at h; exact h)⟩
theorem ok__law_more (T : Txt K mg base A x) : FnOk P w K mg base (L2.CX P w) 5 x.f__law_more x.d__law_more ["_law_bag_here"] (spR K A F__law_more 1 0) := by
  refine SL.fun_ok T.F__law_more sc__law_more (fun vs H Q E h => h.1) (fun cdv Ar outer s H vs Q E hr h => ?_)
  exact ⟨liftS K A (some 0) mm__law_more, (by unfold mm__law_more; exact ((pdss_one (pds_ret (pd_callR (ok__law_one T) rfl rfl (hr.mono (by decide)) rfl T.g__law_one T.kp__law_one T.b__law_one passL (par_nil (pv 0) (pda_cons (pd_lst (pda_cons pd_int (pda_cons pd_int (pda_cons pd_int (pda_cons (pd_bin (o_sub o_no) pd_int pd_int) (pda_cons pd_int (pda_cons (pd_tup (pda_cons pd_int (pda_cons pd_int pda_nil))) (pda_cons (pd_tup (pda_cons (pd_bin (o_sub o_no) pd_int pd_int) (pda_cons pd_int pda_nil))) (pda_cons (pd_tup (pda_cons pd_int (pda_cons pd_int pda_nil))) (pda_cons (pd_bin (o_sub o_no) pd_int pd_int) (pda_cons (pd_callR (ok__law_draw T) rfl rfl (hr.mono (by decide)) rfl T.g__law_draw T.kp__law_draw T.b__law_draw passL (par_nil (pv 0) (pda_cons pd_int pda_nil))) pda_nil))))))))))) pda_nil))))))), enter_R (p := 1) rfl (by decide) (by rw [q__law_more] at h; exact h)⟩
theorem ok__law_plea_r0 (T : Txt K mg base A x) : FnOk P w K mg base (L2.CX P w) 1 x.f__law_plea_r0 x.d__law_plea_r0 ["_law_bag_here", "_law_shape_here", "_law_far_when", "_law_room"] (spR K A F__law_plea_r0 4 0) := by
  refine SL.fun_ok T.F__law_plea_r0 sc__law_plea_r0 (fun vs H Q E h => h.1) (fun cdv Ar outer s H vs Q E hr h => ?_)
  exfalso
  obtain ⟨_, _, _, _, _, _, _, _, _, _, _, _, _, z, _⟩ := h
  cases z
theorem ok__law_plea_r1 (T : Txt K mg base A x) : FnOk P w K mg base (L2.CX P w) 7 x.f__law_plea_r1 x.d__law_plea_r1 ["_law_bag_here", "_law_shape_here", "_law_far_when", "_law_room"] (spR K A F__law_plea_r1 4 0) := by
  refine SL.fun_ok T.F__law_plea_r1 sc__law_plea_r1 (fun vs H Q E h => h.1) (fun cdv Ar outer s H vs Q E hr h => ?_)
  exact ⟨liftS K A (some 0) (mm__law_plea F__law_plea_r0), (by unfold mm__law_plea mt__law_plea_4 mt__law_plea_3 mt__law_plea_2 mt__law_plea_1; exact ((pdss_cons (pds_set (i := 4) sc__law_plea_r1.nd rfl (unop% fd lr) (pd_if (pdt_cmp o_gt (pd_var (pv 3)) pd_int (nomark _)) (pd_callR (ok__law_draw T) rfl rfl (hr.mono (by decide)) rfl T.g__law_draw T.kp__law_draw T.b__law_draw passL (par_nil (pv 0) (pda_cons pd_int pda_nil))) pd_int) (fun _ => by decide))
  (pdss_cons (pds_if (pdt_cmp o_lt (pd_var (pv 4)) pd_int (nomark _)) (pdss_one (pds_ret (pd_tup (pda_cons (pd_str (by decide +kernel)) (pda_cons (pd_callR (ok__law_level T) rfl rfl (hr.mono (by decide)) rfl T.g__law_level T.kp__law_level T.b__law_level passL (par_nil (pv 0) (pda_cons (pd_var (pv 1)) (pda_cons (pd_var (pv 2)) pda_nil)))) (pda_cons (pd_callR (ok__law_level T) rfl rfl (hr.mono (by decide)) rfl T.g__law_level T.kp__law_level T.b__law_level passL (par_nil (pv 0) (pda_cons (pd_var (pv 1)) (pda_cons (pd_var (pv 2)) pda_nil)))) (pda_cons (pd_callR (ok__law_more T) rfl rfl (hr.mono (by decide)) rfl T.g__law_more T.kp__law_more T.b__law_more passL (par_nil (pv 0) pda_nil)) pda_nil))))))) pdss_nil)
  (pdss_cons (pds_if (pdt_cmp (o_eq hr.units o_no) (pd_var (pv 4)) pd_int (nomark _)) (pdss_one (pds_ret (pd_tup (pda_cons (pd_str (by decide +kernel)) (pda_cons (pd_callR (ok__law_plea_r0 T) rfl rfl (hr.mono (by decide)) rfl T.g__law_plea_r0 T.kp__law_plea_r0 T.b__law_plea_r0 passL (par_nil (pv 0) (pda_cons (pd_var (pv 1)) (pda_cons (pd_var (pv 2)) (pda_cons (pd_bin (o_sub o_no) (pd_var (pv 3)) pd_int) pda_nil))))) pda_nil))))) pdss_nil)
  (pdss_cons (pds_set (i := 5) sc__law_plea_r1.nd rfl (unop% fd lr) (pd_callR (ok__law_plea_r0 T) rfl rfl (hr.mono (by decide)) rfl T.g__law_plea_r0 T.kp__law_plea_r0 T.b__law_plea_r0 passL (par_nil (pv 0) (pda_cons (pd_var (pv 1)) (pda_cons (pd_var (pv 2)) (pda_cons (pd_bin (o_sub o_no) (pd_var (pv 3)) pd_int) pda_nil))))) (fun _ => by decide))
  (pdss_cons (pds_if (pdt_cmp o_lt (pd_var (pv 4)) pd_int (nomark _)) (pdss_one (pds_ret (pd_tup (pda_cons (pd_ix (o_ix hr.units1) (pd_lst (pda_cons (pd_str (by decide +kernel)) (pda_cons (pd_str (by decide +kernel)) pda_nil))) (pd_bin (o_sub o_no) (pd_var (pv 4)) pd_int) (fun _ _ => rfl)) (pda_cons (pd_var (pv 5)) (pda_cons (pd_callR (ok__law_plea_r0 T) rfl rfl (hr.mono (by decide)) rfl T.g__law_plea_r0 T.kp__law_plea_r0 T.b__law_plea_r0 passL (par_nil (pv 0) (pda_cons (pd_var (pv 1)) (pda_cons (pd_var (pv 2)) (pda_cons (pd_bin (o_sub o_no) (pd_var (pv 3)) pd_int) pda_nil))))) pda_nil)))))) pdss_nil)
  (pdss_one (pds_ret (pd_tup (pda_cons (pd_str (by decide +kernel)) (pda_cons (pd_var (pv 5)) (pda_cons (pd_callR (ok__law_plea_r0 T) rfl rfl (hr.mono (by decide)) rfl T.g__law_plea_r0 T.kp__law_plea_r0 T.b__law_plea_r0 passL (par_nil (pv 0) (pda_cons (pd_var (pv 1)) (pda_cons (pd_var (pv 2)) (pda_cons pd_int pda_nil))))) (pda_cons (pd_callR (ok__law_plea_r0 T) rfl rfl (hr.mono (by decide)) rfl T.g__law_plea_r0 T.kp__law_plea_r0 T.b__law_plea_r0 passL (par_nil (pv 0) (pda_cons (pd_var (pv 1)) (pda_cons (pd_var (pv 2)) (pda_cons pd_int pda_nil))))) pda_nil)))))))))))))), enter_R (p := 4) rfl (by decide) (by rw [q__law_plea_r1] at h; exact h)⟩
theorem ok__law_plea_r2 (T : Txt K mg base A x) : FnOk P w K mg base (L2.CX P w) 9 x.f__law_plea_r2 x.d__law_plea_r2 ["_law_bag_here", "_law_shape_here", "_law_far_when", "_law_room"] (spR K A F__law_plea_r2 4 0) := by
  refine SL.fun_ok T.F__law_plea_r2 sc__law_plea_r2 (fun vs H Q E h => h.1) (fun cdv Ar outer s H vs Q E hr h => ?_)
  exact ⟨liftS K A (some 0) (mm__law_plea F__law_plea_r1), (by unfold mm__law_plea mt__law_plea_4 mt__law_plea_3 mt__law_plea_2 mt__law_plea_1; exact ((pdss_cons (pds_set (i := 4) sc__law_plea_r2.nd rfl (unop% fd lr) (pd_if (pdt_cmp o_gt (pd_var (pv 3)) pd_int (nomark _)) (pd_callR (ok__law_draw T) rfl rfl (hr.mono (by decide)) rfl T.g__law_draw T.kp__law_draw T.b__law_draw passL (par_nil (pv 0) (pda_cons pd_int pda_nil))) pd_int) (fun _ => by decide))
  (pdss_cons (pds_if (pdt_cmp o_lt (pd_var (pv 4)) pd_int (nomark _)) (pdss_one (pds_ret (pd_tup (pda_cons (pd_str (by decide +kernel)) (pda_cons (pd_callR (ok__law_level T) rfl rfl (hr.mono (by decide)) rfl T.g__law_level T.kp__law_level T.b__law_level passL (par_nil (pv 0) (pda_cons (pd_var (pv 1)) (pda_cons (pd_var (pv 2)) pda_nil)))) (pda_cons (pd_callR (ok__law_level T) rfl rfl (hr.mono (by decide)) rfl T.g__law_level T.kp__law_level T.b__law_level passL (par_nil (pv 0) (pda_cons (pd_var (pv 1)) (pda_cons (pd_var (pv 2)) pda_nil)))) (pda_cons (pd_callR (ok__law_more T) rfl rfl (hr.mono (by decide)) rfl T.g__law_more T.kp__law_more T.b__law_more passL (par_nil (pv 0) pda_nil)) pda_nil))))))) pdss_nil)
  (pdss_cons (pds_if (pdt_cmp (o_eq hr.units o_no) (pd_var (pv 4)) pd_int (nomark _)) (pdss_one (pds_ret (pd_tup (pda_cons (pd_str (by decide +kernel)) (pda_cons (pd_callR (ok__law_plea_r1 T) rfl rfl (hr.mono (by decide)) rfl T.g__law_plea_r1 T.kp__law_plea_r1 T.b__law_plea_r1 passL (par_nil (pv 0) (pda_cons (pd_var (pv 1)) (pda_cons (pd_var (pv 2)) (pda_cons (pd_bin (o_sub o_no) (pd_var (pv 3)) pd_int) pda_nil))))) pda_nil))))) pdss_nil)
  (pdss_cons (pds_set (i := 5) sc__law_plea_r2.nd rfl (unop% fd lr) (pd_callR (ok__law_plea_r1 T) rfl rfl (hr.mono (by decide)) rfl T.g__law_plea_r1 T.kp__law_plea_r1 T.b__law_plea_r1 passL (par_nil (pv 0) (pda_cons (pd_var (pv 1)) (pda_cons (pd_var (pv 2)) (pda_cons (pd_bin (o_sub o_no) (pd_var (pv 3)) pd_int) pda_nil))))) (fun _ => by decide))
  (pdss_cons (pds_if (pdt_cmp o_lt (pd_var (pv 4)) pd_int (nomark _)) (pdss_one (pds_ret (pd_tup (pda_cons (pd_ix (o_ix hr.units1) (pd_lst (pda_cons (pd_str (by decide +kernel)) (pda_cons (pd_str (by decide +kernel)) pda_nil))) (pd_bin (o_sub o_no) (pd_var (pv 4)) pd_int) (fun _ _ => rfl)) (pda_cons (pd_var (pv 5)) (pda_cons (pd_callR (ok__law_plea_r1 T) rfl rfl (hr.mono (by decide)) rfl T.g__law_plea_r1 T.kp__law_plea_r1 T.b__law_plea_r1 passL (par_nil (pv 0) (pda_cons (pd_var (pv 1)) (pda_cons (pd_var (pv 2)) (pda_cons (pd_bin (o_sub o_no) (pd_var (pv 3)) pd_int) pda_nil))))) pda_nil)))))) pdss_nil)
  (pdss_one (pds_ret (pd_tup (pda_cons (pd_str (by decide +kernel)) (pda_cons (pd_var (pv 5)) (pda_cons (pd_callR (ok__law_plea_r1 T) rfl rfl (hr.mono (by decide)) rfl T.g__law_plea_r1 T.kp__law_plea_r1 T.b__law_plea_r1 passL (par_nil (pv 0) (pda_cons (pd_var (pv 1)) (pda_cons (pd_var (pv 2)) (pda_cons pd_int pda_nil))))) (pda_cons (pd_callR (ok__law_plea_r1 T) rfl rfl (hr.mono (by decide)) rfl T.g__law_plea_r1 T.kp__law_plea_r1 T.b__law_plea_r1 passL (par_nil (pv 0) (pda_cons (pd_var (pv 1)) (pda_cons (pd_var (pv 2)) (pda_cons pd_int pda_nil))))) pda_nil)))))))))))))), enter_R (p := 4) rfl (by decide) (by rw [q__law_plea_r2] at h; exact h)⟩
theorem ok__law_plea_r3 (T : Txt K mg base A x) : FnOk P w K mg base (L2.CX P w) 11 x.f__law_plea_r3 x.d__law_plea_r3 ["_law_bag_here", "_law_shape_here", "_law_far_when", "_law_room"] (spR K A F__law_plea_r3 4 0) := by
  refine SL.fun_ok T.F__law_plea_r3 sc__law_plea_r3 (fun vs H Q E h => h.1) (fun cdv Ar outer s H vs Q E hr h => ?_)
  exact ⟨liftS K A (some 0) (mm__law_plea F__law_plea_r2), (by unfold mm__law_plea mt__law_plea_4 mt__law_plea_3 mt__law_plea_2 mt__law_plea_1; exact ((pdss_cons (pds_set (i := 4) sc__law_plea_r3.nd rfl (unop% fd lr) (pd_if (pdt_cmp o_gt (pd_var (pv 3)) pd_int (nomark _)) (pd_callR (ok__law_draw T) rfl rfl (hr.mono (by decide)) rfl T.g__law_draw T.kp__law_draw T.b__law_draw passL (par_nil (pv 0) (pda_cons pd_int pda_nil))) pd_int) (fun _ => by decide))
  (pdss_cons (pds_if (pdt_cmp o_lt (pd_var (pv 4)) pd_int (nomark _)) (pdss_one (pds_ret (pd_tup (pda_cons (pd_str (by decide +kernel)) (pda_cons (pd_callR (ok__law_level T) rfl rfl (hr.mono (by decide)) rfl T.g__law_level T.kp__law_level T.b__law_level passL (par_nil (pv 0) (pda_cons (pd_var (pv 1)) (pda_cons (pd_var (pv 2)) pda_nil)))) (pda_cons (pd_callR (ok__law_level T) rfl rfl (hr.mono (by decide)) rfl T.g__law_level T.kp__law_level T.b__law_level passL (par_nil (pv 0) (pda_cons (pd_var (pv 1)) (pda_cons (pd_var (pv 2)) pda_nil)))) (pda_cons (pd_callR (ok__law_more T) rfl rfl (hr.mono (by decide)) rfl T.g__law_more T.kp__law_more T.b__law_more passL (par_nil (pv 0) pda_nil)) pda_nil))))))) pdss_nil)
  (pdss_cons (pds_if (pdt_cmp (o_eq hr.units o_no) (pd_var (pv 4)) pd_int (nomark _)) (pdss_one (pds_ret (pd_tup (pda_cons (pd_str (by decide +kernel)) (pda_cons (pd_callR (ok__law_plea_r2 T) rfl rfl (hr.mono (by decide)) rfl T.g__law_plea_r2 T.kp__law_plea_r2 T.b__law_plea_r2 passL (par_nil (pv 0) (pda_cons (pd_var (pv 1)) (pda_cons (pd_var (pv 2)) (pda_cons (pd_bin (o_sub o_no) (pd_var (pv 3)) pd_int) pda_nil))))) pda_nil))))) pdss_nil)
  (pdss_cons (pds_set (i := 5) sc__law_plea_r3.nd rfl (unop% fd lr) (pd_callR (ok__law_plea_r2 T) rfl rfl (hr.mono (by decide)) rfl T.g__law_plea_r2 T.kp__law_plea_r2 T.b__law_plea_r2 passL (par_nil (pv 0) (pda_cons (pd_var (pv 1)) (pda_cons (pd_var (pv 2)) (pda_cons (pd_bin (o_sub o_no) (pd_var (pv 3)) pd_int) pda_nil))))) (fun _ => by decide))
  (pdss_cons (pds_if (pdt_cmp o_lt (pd_var (pv 4)) pd_int (nomark _)) (pdss_one (pds_ret (pd_tup (pda_cons (pd_ix (o_ix hr.units1) (pd_lst (pda_cons (pd_str (by decide +kernel)) (pda_cons (pd_str (by decide +kernel)) pda_nil))) (pd_bin (o_sub o_no) (pd_var (pv 4)) pd_int) (fun _ _ => rfl)) (pda_cons (pd_var (pv 5)) (pda_cons (pd_callR (ok__law_plea_r2 T) rfl rfl (hr.mono (by decide)) rfl T.g__law_plea_r2 T.kp__law_plea_r2 T.b__law_plea_r2 passL (par_nil (pv 0) (pda_cons (pd_var (pv 1)) (pda_cons (pd_var (pv 2)) (pda_cons (pd_bin (o_sub o_no) (pd_var (pv 3)) pd_int) pda_nil))))) pda_nil)))))) pdss_nil)
  (pdss_one (pds_ret (pd_tup (pda_cons (pd_str (by decide +kernel)) (pda_cons (pd_var (pv 5)) (pda_cons (pd_callR (ok__law_plea_r2 T) rfl rfl (hr.mono (by decide)) rfl T.g__law_plea_r2 T.kp__law_plea_r2 T.b__law_plea_r2 passL (par_nil (pv 0) (pda_cons (pd_var (pv 1)) (pda_cons (pd_var (pv 2)) (pda_cons pd_int pda_nil))))) (pda_cons (pd_callR (ok__law_plea_r2 T) rfl rfl (hr.mono (by decide)) rfl T.g__law_plea_r2 T.kp__law_plea_r2 T.b__law_plea_r2 passL (par_nil (pv 0) (pda_cons (pd_var (pv 1)) (pda_cons (pd_var (pv 2)) (pda_cons pd_int pda_nil))))) pda_nil)))))))))))))), enter_R (p := 4) rfl (by decide) (by rw [q__law_plea_r3] at h; exact h)⟩
theorem ok__law_cords (T : Txt K mg base A x) : FnOk P w K mg base (L2.CX P w) 5 x.f__law_cords x.d__law_cords ["_law_bag_here", "_law_limbs"] (spR K A F__law_cords 2 0) := by
  refine SL.fun_ok T.F__law_cords sc__law_cords (fun vs H Q E h => h.1) (fun cdv Ar outer s H vs Q E hr h => ?_)
  have pO : PassesOwn (model P w) (cxOf (L2.CX P w) P w K mg base nm__law_cords "_law_cords" (defScope st__law_cords) x.f__law_cords cdv Ar outer s H E).A (cxOf (L2.CX P w) P w K mg base nm__law_cords "_law_cords" (defScope st__law_cords) x.f__law_cords cdv Ar outer s H E).env (cxOf (L2.CX P w) P w K mg base nm__law_cords "_law_cords" (defScope st__law_cords) x.f__law_cords cdv Ar outer s H E).xe := passes_of rfl
  exact ⟨liftS K A (some 0) mm__law_cords, (by unfold mm__law_cords mt__law_cords_3 mt__law_cords_2 mt__law_cords_1; exact ((pdss_cons (pds_set (i := 2) sc__law_cords.nd rfl (unop% fd lr) (pd_lst pda_nil) (fun _ => by decide))
  (pdss_cons (pds_for pO rfl (pdi_range1 (by rfl) T.n_range (pda_cons (PE.imp (pe_callB (o_lenb o_noN) (by rfl) T.n_len (by decide +kernel) (pa_cons (pv 1) pa_nil)) fun _ _ _ => bor1_use (nf_len nf_no1)) pda_nil)) (pdg_name (pg_name (i := 3) sc__law_cords.nd rfl (unop% fd lr))) (pdss_one (pds_for pO rfl (pdi_range1 (by rfl) T.n_range (pda_cons (pd_var (pv 3)) pda_nil)) (pdg_name (pg_name (i := 4) sc__law_cords.nd rfl (unop% fd lr))) (pdss_one (pds_if (pdt_w (pdw_and (pdt_cmp o_lt (pd_callR (ok__law_draw T) rfl rfl (hr.mono (by decide)) rfl T.g__law_draw T.kp__law_draw T.b__law_draw passL (par_nil (pv 0) (pda_cons pd_int pda_nil))) pd_int (nomark _)) (pdw_and1 (pdt_cmp o_lt (PE.imp (pe_callB (o_lenb o_noN) (by rfl) T.n_len (by decide +kernel) (pa_cons (pv 2) pa_nil)) fun _ _ _ => bor1_use (nf_len nf_no1)) pd_int (nomark _))))) (pdss_cons (pds_set (i := 5) sc__law_cords.nd rfl (unop% fd lr) (pd_if (pdt_cmp (o_eq hr.units o_no) (pd_callR (ok__law_draw T) rfl rfl (hr.mono (by decide)) rfl T.g__law_draw T.kp__law_draw T.b__law_draw passL (par_nil (pv 0) (pda_cons pd_int pda_nil))) pd_int (nomark _)) (pd_tup (pda_cons (pd_borix hr.units1 (pv 1) (pd_var (pv 4)) (fun _ _ => rfl)) (pda_cons (pd_borix hr.units1 (pv 1) (pd_var (pv 3)) (fun _ _ => rfl)) pda_nil))) (pd_tup (pda_cons (pd_borix hr.units1 (pv 1) (pd_var (pv 3)) (fun _ _ => rfl)) (pda_cons (pd_borix hr.units1 (pv 1) (pd_var (pv 4)) (fun _ _ => rfl)) pda_nil)))) (fun _ => by decide))
  (pdss_one (pds_expr (pd_append (pv 2) (pda_cons (pd_bin (o_add o_no) (pd_var (pv 5)) (pd_tup (pda_cons (pd_callR (ok__law_one T) rfl rfl (hr.mono (by decide)) rfl T.g__law_one T.kp__law_one T.b__law_one passL (par_nil (pv 0) (pda_cons (pd_lst (pda_cons pd_int (pda_cons pd_int (pda_cons pd_int (pda_cons pd_int (pda_cons pd_int (pda_cons pd_int (pda_cons pd_int pda_nil)))))))) pda_nil))) pda_nil))) pda_nil) (fun h => pe_bm PySem.F.plainAttrs_list PySem.F.slot_list_append PySem.F.type_list_append h (pv 2) (pda_cons (pd_bin (o_add o_no) (pd_var (pv 5)) (pd_tup (pda_cons (pd_callR (ok__law_one T) rfl rfl (hr.mono (by decide)) rfl T.g__law_one T.kp__law_one T.b__law_one passL (par_nil (pv 0) (pda_cons (pd_lst (pda_cons pd_int (pda_cons pd_int (pda_cons pd_int (pda_cons pd_int (pda_cons pd_int (pda_cons pd_int (pda_cons pd_int pda_nil)))))))) pda_nil))) pda_nil))) pda_nil)))))) pdss_nil)))))
  (pdss_one (pds_ret (pd_callTy o_tuple (by rfl) T.n_tuple (by decide +kernel) (pda_cons (pd_var (pv 2)) pda_nil)))))))), enter_R (p := 2) rfl (by decide) (by rw [q__law_cords] at h; exact h)⟩
theorem ok__law_letters (T : Txt K mg base A x) : FnOk P w K mg base (L2.CX P w) 3 x.f__law_letters x.d__law_letters ["_law_bag_here", "_law_pool", "_law_many"] (spR K A F__law_letters 3 0) := by
  refine SL.fun_ok T.F__law_letters sc__law_letters (fun vs H Q E h => h.1) (fun cdv Ar outer s H vs Q E hr h => ?_)
  have pO : PassesOwn (model P w) (cxOf (L2.CX P w) P w K mg base nm__law_letters "_law_letters" (defScope st__law_letters) x.f__law_letters cdv Ar outer s H E).A (cxOf (L2.CX P w) P w K mg base nm__law_letters "_law_letters" (defScope st__law_letters) x.f__law_letters cdv Ar outer s H E).env (cxOf (L2.CX P w) P w K mg base nm__law_letters "_law_letters" (defScope st__law_letters) x.f__law_letters cdv Ar outer s H E).xe := passes_of rfl
  exact ⟨liftS K A (some 0) mm__law_letters, (by unfold mm__law_letters mt__law_letters_2 mt__law_letters_1; exact ((pdss_cons (pds_par (i := 3) (k := 4) rfl sc__law_letters.nd rfl rfl (by decide) rfl rfl (pd_callTy (o_listS rfl) (by rfl) T.n_list (by decide +kernel) (pda_cons (pd_var (pv 1)) pda_nil)) (pd_lst pda_nil) (fun _ => by decide) (by rfl))
  (pdss_cons (pds_for pO rfl (pdi_range1 (by rfl) T.n_range (pda_cons (pd_var (pv 2)) pda_nil)) (pdg_name (pg_name (i := 5) sc__law_letters.nd rfl (unop% fd lr))) (pdss_one (pds_expr (pd_append (pv 4) (pda_cons (pd_pop1 (fun h => pe_bm PySem.F.plainAttrs_list PySem.F.slot_list_pop PySem.F.type_list_pop h (pv 3) (pda_cons (pd_callR (ok__law_draw T) rfl rfl (hr.mono (by decide)) rfl T.g__law_draw T.kp__law_draw T.b__law_draw passL (par_nil (pv 0) (pda_cons (PE.imp (pe_callB (o_lenb o_noN) (by rfl) T.n_len (by decide +kernel) (pa_cons (pv 3) pa_nil)) fun _ _ _ => bor1_use (nf_len nf_no1)) pda_nil))) pda_nil))) pda_nil) (fun h => pe_bm PySem.F.plainAttrs_list PySem.F.slot_list_append PySem.F.type_list_append h (pv 4) (pda_cons (pd_pop1 (fun h => pe_bm PySem.F.plainAttrs_list PySem.F.slot_list_pop PySem.F.type_list_pop h (pv 3) (pda_cons (pd_callR (ok__law_draw T) rfl rfl (hr.mono (by decide)) rfl T.g__law_draw T.kp__law_draw T.b__law_draw passL (par_nil (pv 0) (pda_cons (PE.imp (pe_callB (o_lenb o_noN) (by rfl) T.n_len (by decide +kernel) (pa_cons (pv 3) pa_nil)) fun _ _ _ => bor1_use (nf_len nf_no1)) pda_nil))) pda_nil))) pda_nil))))))
  (pdss_one (pds_ret (pd_join (pd_str (by decide +kernel)) (pd_callB o_sorted (by rfl) T.n_sorted (by decide +kernel) (pda_cons (pd_var (pv 4)) pda_nil)) (fun h a b => pe_m1 PySem.F.slot_str_join PySem.F.type_str_join h a b)))))))), enter_R (p := 3) rfl (by decide) (by rw [q__law_letters] at h; exact h)⟩
theorem ok__law_words (T : Txt K mg base A x) : FnOk P w K mg base (L2.CX P w) 5 x.f__law_words x.d__law_words ["_law_bag_here", "_law_many"] (spR K A F__law_words 2 0) := by
  refine SL.fun_ok T.F__law_words sc__law_words (fun vs H Q E h => h.1) (fun cdv Ar outer s H vs Q E hr h => ?_)
  have pO : PassesOwn (model P w) (cxOf (L2.CX P w) P w K mg base nm__law_words "_law_words" (defScope st__law_words) x.f__law_words cdv Ar outer s H E).A (cxOf (L2.CX P w) P w K mg base nm__law_words "_law_words" (defScope st__law_words) x.f__law_words cdv Ar outer s H E).env (cxOf (L2.CX P w) P w K mg base nm__law_words "_law_words" (defScope st__law_words) x.f__law_words cdv Ar outer s H E).xe := passes_of rfl
  exact ⟨liftS K A (some 0) mm__law_words, (by unfold mm__law_words mt__law_words_3 mt__law_words_2 mt__law_words_1; exact ((pdss_cons (pds_set (i := 2) sc__law_words.nd rfl (unop% fd lr) (pd_lst pda_nil) (fun _ => by decide))
  (pdss_cons (pds_for pO rfl (pdi_range1 (by rfl) T.n_range (pda_cons (pd_var (pv 1)) pda_nil)) (pdg_name (pg_name (i := 3) sc__law_words.nd rfl (unop% fd lr))) (pdss_cons (pds_set (i := 4) sc__law_words.nd rfl (unop% fd lr) (pd_join (pd_str (by decide +kernel)) (pd_lc (by decide) (pe_lc (own := [("_law_k", 5)]) rfl sc__law_words.nd (pdi_range1 (by rfl) T.n_range (pda_cons (pd_bin (o_add o_no) pd_int (pd_callR (ok__law_draw T) rfl rfl (hr.mono (by decide)) rfl T.g__law_draw T.kp__law_draw T.b__law_draw passL (par_nil (pv 0) (pda_cons pd_int pda_nil)))) pda_nil)) (blkOk_by (own := [("_law_k", 5)]) (N := nm__law_words) (sc := defScope st__law_words) (by decide +kernel)) (fun _ _ _ _ _ => (pdg_name (pg_name (i := 5) sc__law_words.nd rfl (unop% fd lr)))) (fun _ _ _ _ _ => pdts_nil) (fun _ _ _ _ _ => (pd_callR (ok__law_one T) rfl rfl (hr.mono (by decide)) rfl T.g__law_one T.kp__law_one T.b__law_one passL (par_nil (pv 0) (pda_cons (pd_str (by decide +kernel)) pda_nil)))))) (fun h a b => pe_m1 PySem.F.slot_str_join PySem.F.type_str_join h a b)) (fun _ => by decide))
  (pdss_cons (pds_if (pdt_borin (u65 hr) (pd_var (pv 4)) (pv 2) (by with_unfolding_all rfl)) (pdss_one (pds_set (i := 4) sc__law_words.nd rfl (unop% fd lr) (pd_bin (o_add o_no) (pd_slice (pd_var (pv 4)) pdo_none (pdo_some pd_int)) (pd_ix (o_ix hr.units1) (pd_str (by decide +kernel)) (pd_var (pv 3)) (fun _ _ => rfl))) (fun _ => by decide))) pdss_nil)
  (pdss_one (pds_expr (pd_append (pv 2) (pda_cons (pd_var (pv 4)) pda_nil) (fun h => pe_bm PySem.F.plainAttrs_list PySem.F.slot_list_append PySem.F.type_list_append h (pv 2) (pda_cons (pd_var (pv 4)) pda_nil))))))))
  (pdss_one (pds_ret (pd_callTy o_tuple (by rfl) T.n_tuple (by decide +kernel) (pda_cons (pd_var (pv 2)) pda_nil)))))))), enter_R (p := 2) rfl (by decide) (by rw [q__law_words] at h; exact h)⟩
theorem ok__law_shape (T : Txt K mg base A x) : FnOk P w K mg base (L2.CX P w) 7 x.f__law_shape x.d__law_shape ["_law_bag_here"] (spR K A F__law_shape 1 0) := by
  refine SL.fun_ok T.F__law_shape sc__law_shape (fun vs H Q E h => h.1) (fun cdv Ar outer s H vs Q E hr h => ?_)
  exact ⟨liftS K A (some 0) mm__law_shape, (by unfold mm__law_shape mt__law_shape_3 mt__law_shape_2 mt__law_shape_1; exact ((pdss_cons (pds_set (i := 1) sc__law_shape.nd rfl (unop% fd lr) (pd_callR (ok__law_words T) rfl rfl (hr.mono (by decide)) rfl T.g__law_words T.kp__law_words T.b__law_words passL (par_nil (pv 0) (pda_cons (pd_bin (o_add o_no) pd_int (pd_callR (ok__law_draw T) rfl rfl (hr.mono (by decide)) rfl T.g__law_draw T.kp__law_draw T.b__law_draw passL (par_nil (pv 0) (pda_cons pd_int pda_nil)))) pda_nil))) (fun _ => by decide))
  (pdss_cons (pds_set (i := 2) sc__law_shape.nd rfl (unop% fd lr) (pd_callR (ok__law_letters T) rfl rfl (hr.mono (by decide)) rfl T.g__law_letters T.kp__law_letters T.b__law_letters passL (par_nil (pv 0) (pda_cons (pd_str (by decide +kernel)) (pda_cons (pd_bin (o_add o_no) pd_int (pd_callR (ok__law_draw T) rfl rfl (hr.mono (by decide)) rfl T.g__law_draw T.kp__law_draw T.b__law_draw passL (par_nil (pv 0) (pda_cons pd_int pda_nil)))) pda_nil)))) (fun _ => by decide))
  (pdss_cons (pds_set (i := 3) sc__law_shape.nd rfl (unop% fd lr) (pd_callR (ok__law_letters T) rfl rfl (hr.mono (by decide)) rfl T.g__law_letters T.kp__law_letters T.b__law_letters passL (par_nil (pv 0) (pda_cons (pd_str (by decide +kernel)) (pda_cons (pd_bin (o_add o_no) pd_int (pd_callR (ok__law_draw T) rfl rfl (hr.mono (by decide)) rfl T.g__law_draw T.kp__law_draw T.b__law_draw passL (par_nil (pv 0) (pda_cons pd_int pda_nil)))) pda_nil)))) (fun _ => by decide))
  (pdss_cons (pds_set (i := 4) sc__law_shape.nd rfl (unop% fd lr) (pd_callTy o_tuple (by rfl) T.n_tuple (by decide +kernel) (pda_cons (pd_lc (by decide) (pe_lc (own := [("_law_each", 5)]) rfl sc__law_shape.nd (pdi_val (pd_var (pv 3))) (blkOk_by (own := [("_law_each", 5)]) (N := nm__law_shape) (sc := defScope st__law_shape) (by decide +kernel)) (fun _ _ _ _ _ => (pdg_name (pg_name (i := 5) sc__law_shape.nd rfl (unop% fd lr)))) (fun _ _ _ _ _ => pdts_nil) (fun _ _ _ _ _ => (pd_tup (pda_cons (pd_var (pv 5)) (pda_cons (pd_callR (ok__law_one T) rfl rfl (hr.mono (by decide)) rfl T.g__law_one T.kp__law_one T.b__law_one passL (par_nil (pv 0) (pda_cons (pd_var (pv 2)) pda_nil))) (pda_cons (pd_callR (ok__law_one T) rfl rfl (hr.mono (by decide)) rfl T.g__law_one T.kp__law_one T.b__law_one passL (par_nil (pv 0) (pda_cons (pd_var (pv 1)) pda_nil))) pda_nil))))))) pda_nil)) (fun _ => by decide))
  (pdss_one (pds_ret (pd_tup (pda_cons (pd_var (pv 1)) (pda_cons (pd_callR (ok__law_cords T) rfl rfl (hr.mono (by decide)) rfl T.g__law_cords T.kp__law_cords T.b__law_cords passL (par_nil (pv 0) (pda_cons (pd_var (pv 1)) pda_nil))) (pda_cons (pd_var (pv 2)) (pda_cons (pd_var (pv 4)) pda_nil))))))))))))), enter_R (p := 1) rfl (by decide) (by rw [q__law_shape] at h; exact h)⟩
theorem ok__law_level_text (T : Txt K mg base A x) : FnOk P w K mg base (L2.CX P w) 1 x.f__law_level_text x.d__law_level_text ["_law_level_here"] (spF K A F__law_level_text 1) := by
  refine SL.fun_ok T.F__law_level_text sc__law_level_text (fun vs H Q E h => h.1) (fun cdv Ar outer s H vs Q E hr h => ?_)
  exact ⟨liftS K A none mm__law_level_text, (by unfold mm__law_level_text; exact ((pdss_cons (pds_if (pdt_cmp (o_eq hr.units o_no) (pd_var (pv 0)) (pd_tup (pda_cons (pd_str (by decide +kernel)) pda_nil)) (nomark _)) (pdss_one (pds_ret (pd_str (by decide +kernel)))) pdss_nil)
  (pdss_one (pds_ret (pd_if (pdt_cmp (o_eq hr.units o_no) (pd_borix hr.units1 (pv 0) pd_int (fun _ _ => rfl)) (pd_str (by decide +kernel)) (nomark _)) (pd_borix hr.units1 (pv 0) pd_int (fun _ _ => rfl)) (pd_bin (o_add o_no) (pd_bin (o_add o_no) (pd_borix hr.units1 (pv 0) pd_int (fun _ _ => rfl)) (pd_str (by decide +kernel))) (pd_callTy (o_str o_noS) (by rfl) T.n_str (by decide +kernel) (pda_cons (pd_borix hr.units1 (pv 0) pd_int (fun _ _ => rfl)) pda_nil))))))))), enter_F (p := 1) rfl (by decide) (by rw [q__law_level_text] at h; exact h)⟩
theorem ok__law_written_r0 (T : Txt K mg base A x) : FnOk P w K mg base (L2.CX P w) 1 x.f__law_written_r0 x.d__law_written_r0 ["_law_plea_here"] (spF K A F__law_written_r0 1) := by
  refine SL.fun_ok T.F__law_written_r0 sc__law_written_r0 (fun vs H Q E h => h.1) (fun cdv Ar outer s H vs Q E hr h => ?_)
  exfalso
  obtain ⟨_, _, _, _, _, _, z, _⟩ := h
  cases z
theorem ok__law_written_r1 (T : Txt K mg base A x) : FnOk P w K mg base (L2.CX P w) 3 x.f__law_written_r1 x.d__law_written_r1 ["_law_plea_here"] (spF K A F__law_written_r1 1) := by
  refine SL.fun_ok T.F__law_written_r1 sc__law_written_r1 (fun vs H Q E h => h.1) (fun cdv Ar outer s H vs Q E hr h => ?_)
  exact ⟨liftS K A none (mm__law_written F__law_written_r0), (by unfold mm__law_written mt__law_written_2 mt__law_written_1; exact ((pdss_cons (pds_if (pdt_cmp (o_eq hr.units o_no) (pd_borix hr.units1 (pv 0) pd_int (fun _ _ => rfl)) (pd_str (by decide +kernel)) (nomark _)) (pdss_cons (pds_set (i := 1) sc__law_written_r1.nd rfl (unop% fd lr) (pd_if (pdt_val (pd_callB (o_isi T.kd) (by rfl) T.n_isinstance (by decide +kernel) (pda_cons (pd_borix hr.units1 (pv 0) pd_int (fun _ _ => rfl)) (pda_cons (pd_c (pe_bltn (v := .ty "tuple") (by rfl) T.n_tuple (by decide +kernel) rfl) fun _ => .ty .tuple) pda_nil)))) (pd_borix hr.units1 (pv 0) pd_int (fun _ _ => rfl)) (pd_tup (pda_cons (pd_borix hr.units1 (pv 0) pd_int (fun _ _ => rfl)) (pda_cons pd_int pda_nil)))) (fun _ => by decide))
  (pdss_cons (pds_set (i := 2) sc__law_written_r1.nd rfl (unop% fd lr) (pd_if (pdt_cmp (o_eq hr.units o_no) (pd_borix hr.units1 (pv 1) pd_int (fun _ _ => rfl)) pd_int (nomark _)) (pd_callTy (o_str o_noS) (by rfl) T.n_str (by decide +kernel) (pda_cons (pd_borix hr.units1 (pv 1) pd_int (fun _ _ => rfl)) pda_nil)) (pd_bin (o_add o_no) (pd_bin (o_add o_no) (pd_callTy (o_str o_noS) (by rfl) T.n_str (by decide +kernel) (pda_cons (pd_borix hr.units1 (pv 1) pd_int (fun _ _ => rfl)) pda_nil)) (pd_str (by decide +kernel))) (pd_callTy (o_str o_noS) (by rfl) T.n_str (by decide +kernel) (pda_cons (pd_borix hr.units1 (pv 1) pd_int (fun _ _ => rfl)) pda_nil)))) (fun _ => by decide))
  (pdss_cons (pds_set (i := 3) sc__law_written_r1.nd rfl (unop% fd lr) (pd_lst (pda_cons (pd_call hl__law_level_text (ok__law_level_text T) (hr.mono (by decide)) rfl T.g__law_level_text T.kp__law_level_text T.b__law_level_text passL (pda_cons (pd_borix hr.units1 (pv 0) pd_int (fun _ _ => rfl)) pda_nil)) (pda_cons (pd_call hl__law_level_text (ok__law_level_text T) (hr.mono (by decide)) rfl T.g__law_level_text T.kp__law_level_text T.b__law_level_text passL (pda_cons (pd_borix hr.units1 (pv 0) pd_int (fun _ _ => rfl)) pda_nil)) pda_nil))) (fun _ => by decide))
  (pdss_one (pds_ret (pd_bin (o_add o_no) (pd_bin (o_add o_no) (pd_str (by decide +kernel)) (pd_join (pd_str (by decide +kernel)) (pd_bin (o_add o_no) (pd_var (pv 3)) (pd_lst (pda_cons (pd_var (pv 2)) pda_nil))) (fun h a b => pe_m1 PySem.F.slot_str_join PySem.F.type_str_join h a b))) (pd_str (by decide +kernel)))))))) pdss_nil)
  (pdss_one (pds_ret (pd_bin (o_add o_no) (pd_bin (o_add o_no) (pd_str (by decide +kernel)) (pd_join (pd_str (by decide +kernel)) (pd_bin (o_add o_no) (pd_lst (pda_cons (pd_borix hr.units1 (pv 0) pd_int (fun _ _ => rfl)) pda_nil)) (pd_lc (by decide) (pe_lc (own := [("_law_each", 4)]) rfl sc__law_written_r1.nd (pdi_val (pd_slice (pd_var (pv 0)) (pdo_some pd_int) pdo_none)) (blkOk_by (own := [("_law_each", 4)]) (N := nm__law_written_r1) (sc := defScope st__law_written_r1) (by decide +kernel)) (fun _ _ _ _ _ => (pdg_name (pg_name (i := 4) sc__law_written_r1.nd rfl (unop% fd lr)))) (fun _ _ _ _ _ => pdts_nil) (fun _ _ _ _ _ => (pd_call hl__law_written_r0 (ok__law_written_r0 T) (hr.mono (by decide)) rfl T.g__law_written_r0 T.kp__law_written_r0 T.b__law_written_r0 passL (pda_cons (pd_var (pv 4)) pda_nil)))))) (fun h a b => pe_m1 PySem.F.slot_str_join PySem.F.type_str_join h a b))) (pd_str (by decide +kernel)))))))), enter_F (p := 1) rfl (by decide) (by rw [q__law_written_r1] at h; exact h)⟩
theorem ok__law_written_r2 (T : Txt K mg base A x) : FnOk P w K mg base (L2.CX P w) 5 x.f__law_written_r2 x.d__law_written_r2 ["_law_plea_here"] (spF K A F__law_written_r2 1) := by
  refine SL.fun_ok T.F__law_written_r2 sc__law_written_r2 (fun vs H Q E h => h.1) (fun cdv Ar outer s H vs Q E hr h => ?_)
  exact ⟨liftS K A none (mm__law_written F__law_written_r1), (by unfold mm__law_written mt__law_written_2 mt__law_written_1; exact ((pdss_cons (pds_if (pdt_cmp (o_eq hr.units o_no) (pd_borix hr.units1 (pv 0) pd_int (fun _ _ => rfl)) (pd_str (by decide +kernel)) (nomark _)) (pdss_cons (pds_set (i := 1) sc__law_written_r2.nd rfl (unop% fd lr) (pd_if (pdt_val (pd_callB (o_isi T.kd) (by rfl) T.n_isinstance (by decide +kernel) (pda_cons (pd_borix hr.units1 (pv 0) pd_int (fun _ _ => rfl)) (pda_cons (pd_c (pe_bltn (v := .ty "tuple") (by rfl) T.n_tuple (by decide +kernel) rfl) fun _ => .ty .tuple) pda_nil)))) (pd_borix hr.units1 (pv 0) pd_int (fun _ _ => rfl)) (pd_tup (pda_cons (pd_borix hr.units1 (pv 0) pd_int (fun _ _ => rfl)) (pda_cons pd_int pda_nil)))) (fun _ => by decide))
  (pdss_cons (pds_set (i := 2) sc__law_written_r2.nd rfl (unop% fd lr) (pd_if (pdt_cmp (o_eq hr.units o_no) (pd_borix hr.units1 (pv 1) pd_int (fun _ _ => rfl)) pd_int (nomark _)) (pd_callTy (o_str o_noS) (by rfl) T.n_str (by decide +kernel) (pda_cons (pd_borix hr.units1 (pv 1) pd_int (fun _ _ => rfl)) pda_nil)) (pd_bin (o_add o_no) (pd_bin (o_add o_no) (pd_callTy (o_str o_noS) (by rfl) T.n_str (by decide +kernel) (pda_cons (pd_borix hr.units1 (pv 1) pd_int (fun _ _ => rfl)) pda_nil)) (pd_str (by decide +kernel))) (pd_callTy (o_str o_noS) (by rfl) T.n_str (by decide +kernel) (pda_cons (pd_borix hr.units1 (pv 1) pd_int (fun _ _ => rfl)) pda_nil)))) (fun _ => by decide))
  (pdss_cons (pds_set (i := 3) sc__law_written_r2.nd rfl (unop% fd lr) (pd_lst (pda_cons (pd_call hl__law_level_text (ok__law_level_text T) (hr.mono (by decide)) rfl T.g__law_level_text T.kp__law_level_text T.b__law_level_text passL (pda_cons (pd_borix hr.units1 (pv 0) pd_int (fun _ _ => rfl)) pda_nil)) (pda_cons (pd_call hl__law_level_text (ok__law_level_text T) (hr.mono (by decide)) rfl T.g__law_level_text T.kp__law_level_text T.b__law_level_text passL (pda_cons (pd_borix hr.units1 (pv 0) pd_int (fun _ _ => rfl)) pda_nil)) pda_nil))) (fun _ => by decide))
  (pdss_one (pds_ret (pd_bin (o_add o_no) (pd_bin (o_add o_no) (pd_str (by decide +kernel)) (pd_join (pd_str (by decide +kernel)) (pd_bin (o_add o_no) (pd_var (pv 3)) (pd_lst (pda_cons (pd_var (pv 2)) pda_nil))) (fun h a b => pe_m1 PySem.F.slot_str_join PySem.F.type_str_join h a b))) (pd_str (by decide +kernel)))))))) pdss_nil)
  (pdss_one (pds_ret (pd_bin (o_add o_no) (pd_bin (o_add o_no) (pd_str (by decide +kernel)) (pd_join (pd_str (by decide +kernel)) (pd_bin (o_add o_no) (pd_lst (pda_cons (pd_borix hr.units1 (pv 0) pd_int (fun _ _ => rfl)) pda_nil)) (pd_lc (by decide) (pe_lc (own := [("_law_each", 4)]) rfl sc__law_written_r2.nd (pdi_val (pd_slice (pd_var (pv 0)) (pdo_some pd_int) pdo_none)) (blkOk_by (own := [("_law_each", 4)]) (N := nm__law_written_r2) (sc := defScope st__law_written_r2) (by decide +kernel)) (fun _ _ _ _ _ => (pdg_name (pg_name (i := 4) sc__law_written_r2.nd rfl (unop% fd lr)))) (fun _ _ _ _ _ => pdts_nil) (fun _ _ _ _ _ => (pd_call hl__law_written_r1 (ok__law_written_r1 T) (hr.mono (by decide)) rfl T.g__law_written_r1 T.kp__law_written_r1 T.b__law_written_r1 passL (pda_cons (pd_var (pv 4)) pda_nil)))))) (fun h a b => pe_m1 PySem.F.slot_str_join PySem.F.type_str_join h a b))) (pd_str (by decide +kernel)))))))), enter_F (p := 1) rfl (by decide) (by rw [q__law_written_r2] at h; exact h)⟩
theorem ok__law_written_r3 (T : Txt K mg base A x) : FnOk P w K mg base (L2.CX P w) 7 x.f__law_written_r3 x.d__law_written_r3 ["_law_plea_here"] (spF K A F__law_written_r3 1) := by
  refine SL.fun_ok T.F__law_written_r3 sc__law_written_r3 (fun vs H Q E h => h.1) (fun cdv Ar outer s H vs Q E hr h => ?_)
  exact ⟨liftS K A none (mm__law_written F__law_written_r2), (by unfold mm__law_written mt__law_written_2 mt__law_written_1; exact ((pdss_cons (pds_if (pdt_cmp (o_eq hr.units o_no) (pd_borix hr.units1 (pv 0) pd_int (fun _ _ => rfl)) (pd_str (by decide +kernel)) (nomark _)) (pdss_cons (pds_set (i := 1) sc__law_written_r3.nd rfl (unop% fd lr) (pd_if (pdt_val (pd_callB (o_isi T.kd) (by rfl) T.n_isinstance (by decide +kernel) (pda_cons (pd_borix hr.units1 (pv 0) pd_int (fun _ _ => rfl)) (pda_cons (pd_c (pe_bltn (v := .ty "tuple") (by rfl) T.n_tuple (by decide +kernel) rfl) fun _ => .ty .tuple) pda_nil)))) (pd_borix hr.units1 (pv 0) pd_int (fun _ _ => rfl)) (pd_tup (pda_cons (pd_borix hr.units1 (pv 0) pd_int (fun _ _ => rfl)) (pda_cons pd_int pda_nil)))) (fun _ => by decide))
  (pdss_cons (pds_set (i := 2) sc__law_written_r3.nd rfl (unop% fd lr) (pd_if (pdt_cmp (o_eq hr.units o_no) (pd_borix hr.units1 (pv 1) pd_int (fun _ _ => rfl)) pd_int (nomark _)) (pd_callTy (o_str o_noS) (by rfl) T.n_str (by decide +kernel) (pda_cons (pd_borix hr.units1 (pv 1) pd_int (fun _ _ => rfl)) pda_nil)) (pd_bin (o_add o_no) (pd_bin (o_add o_no) (pd_callTy (o_str o_noS) (by rfl) T.n_str (by decide +kernel) (pda_cons (pd_borix hr.units1 (pv 1) pd_int (fun _ _ => rfl)) pda_nil)) (pd_str (by decide +kernel))) (pd_callTy (o_str o_noS) (by rfl) T.n_str (by decide +kernel) (pda_cons (pd_borix hr.units1 (pv 1) pd_int (fun _ _ => rfl)) pda_nil)))) (fun _ => by decide))
  (pdss_cons (pds_set (i := 3) sc__law_written_r3.nd rfl (unop% fd lr) (pd_lst (pda_cons (pd_call hl__law_level_text (ok__law_level_text T) (hr.mono (by decide)) rfl T.g__law_level_text T.kp__law_level_text T.b__law_level_text passL (pda_cons (pd_borix hr.units1 (pv 0) pd_int (fun _ _ => rfl)) pda_nil)) (pda_cons (pd_call hl__law_level_text (ok__law_level_text T) (hr.mono (by decide)) rfl T.g__law_level_text T.kp__law_level_text T.b__law_level_text passL (pda_cons (pd_borix hr.units1 (pv 0) pd_int (fun _ _ => rfl)) pda_nil)) pda_nil))) (fun _ => by decide))
  (pdss_one (pds_ret (pd_bin (o_add o_no) (pd_bin (o_add o_no) (pd_str (by decide +kernel)) (pd_join (pd_str (by decide +kernel)) (pd_bin (o_add o_no) (pd_var (pv 3)) (pd_lst (pda_cons (pd_var (pv 2)) pda_nil))) (fun h a b => pe_m1 PySem.F.slot_str_join PySem.F.type_str_join h a b))) (pd_str (by decide +kernel)))))))) pdss_nil)
  (pdss_one (pds_ret (pd_bin (o_add o_no) (pd_bin (o_add o_no) (pd_str (by decide +kernel)) (pd_join (pd_str (by decide +kernel)) (pd_bin (o_add o_no) (pd_lst (pda_cons (pd_borix hr.units1 (pv 0) pd_int (fun _ _ => rfl)) pda_nil)) (pd_lc (by decide) (pe_lc (own := [("_law_each", 4)]) rfl sc__law_written_r3.nd (pdi_val (pd_slice (pd_var (pv 0)) (pdo_some pd_int) pdo_none)) (blkOk_by (own := [("_law_each", 4)]) (N := nm__law_written_r3) (sc := defScope st__law_written_r3) (by decide +kernel)) (fun _ _ _ _ _ => (pdg_name (pg_name (i := 4) sc__law_written_r3.nd rfl (unop% fd lr)))) (fun _ _ _ _ _ => pdts_nil) (fun _ _ _ _ _ => (pd_call hl__law_written_r2 (ok__law_written_r2 T) (hr.mono (by decide)) rfl T.g__law_written_r2 T.kp__law_written_r2 T.b__law_written_r2 passL (pda_cons (pd_var (pv 4)) pda_nil)))))) (fun h a b => pe_m1 PySem.F.slot_str_join PySem.F.type_str_join h a b))) (pd_str (by decide +kernel)))))))), enter_F (p := 1) rfl (by decide) (by rw [q__law_written_r3] at h; exact h)⟩
theorem ok__law_right (T : Txt K mg base A x) : FnOk P w K mg base (L2.CX P w) 20 x.f__law_right x.d__law_right ["_law_bag_here"] (spR K A F__law_right 1 0) := by
  refine SL.fun_ok T.F__law_right sc__law_right (fun vs H Q E h => h.1) (fun cdv Ar outer s H vs Q E hr h => ?_)
  have pO : PassesOwn (model P w) (cxOf (L2.CX P w) P w K mg base nm__law_right "_law_right" (defScope st__law_right) x.f__law_right cdv Ar outer s H E).A (cxOf (L2.CX P w) P w K mg base nm__law_right "_law_right" (defScope st__law_right) x.f__law_right cdv Ar outer s H E).env (cxOf (L2.CX P w) P w K mg base nm__law_right "_law_right" (defScope st__law_right) x.f__law_right cdv Ar outer s H E).xe := passes_of rfl
  exact ⟨liftS K A (some 0) mm__law_right, (by unfold mm__law_right mt__law_right_9 mt__law_right_8 mt__law_right_7 mt__law_right_6 mt__law_right_5 mt__law_right_4 mt__law_right_3 mt__law_right_2 mt__law_right_1; exact ((pdss_cons (pds_par (i := 1) (k := 2) rfl sc__law_right.nd rfl rfl (by decide) rfl rfl (pd_callR (ok__law_shape T) rfl rfl (hr.mono (by decide)) rfl T.g__law_shape T.kp__law_shape T.b__law_shape passL (par_nil (pv 0) pda_nil)) (pd_lst pda_nil) (fun _ => by decide) (by rfl))
  (pdss_cons (pds_for pO rfl (pdi_range1 (by rfl) T.n_range (pda_cons pd_int pda_nil)) (pdg_name (pg_name (i := 3) sc__law_right.nd rfl (unop% fd lr))) (pdss_cons (pds_set (i := 4) sc__law_right.nd rfl (unop% fd lr) (pd_callR (ok__law_plea_r3 T) rfl rfl (hr.mono (by decide)) rfl T.g__law_plea_r3 T.kp__law_plea_r3 T.b__law_plea_r3 passL (par_nil (pv 0) (pda_cons (pd_var (pv 1)) (pda_cons pd_int (pda_cons (pd_callR (ok__law_draw T) rfl rfl (hr.mono (by decide)) rfl T.g__law_draw T.kp__law_draw T.b__law_draw passL (par_nil (pv 0) (pda_cons pd_int pda_nil))) pda_nil))))) (fun _ => by decide))
  (pdss_cons (pds_par (i := 5) (k := 6) rfl sc__law_right.nd rfl rfl (by decide) rfl rfl (pd_call hl__law_written_r3 (ok__law_written_r3 T) (hr.mono (by decide)) rfl T.g__law_written_r3 T.kp__law_written_r3 T.b__law_written_r3 passL (pda_cons (pd_var (pv 4)) pda_nil)) (pd_make T.in_Wish hi_Wish___init__ (fun _ => .nil) T.mk_Wish (ok_Wish___init__ T) (hr.mono (by decide)) rfl T.g_Wish T.b_Wish___init__ .nil passL (pda_cons (pd_var (pv 4)) pda_nil)) (fun _ => by decide) (by rfl))
  (pdss_cons (pds_if (pdt_cmp (o_ne hr.units (neOf_sel (o_neC T.kd T.in_Wish T.o_Wish_eq T.ne_Wish T.ob_Wish (ok_Wish___eq__ T) (hr.mono (by decide)) T.b_Wish___eq__ passL) o_noNe)) (pd_lst (pda_cons (pd_fld T.kd T.fl_Wish_form (pd_var (pv 6))) (pda_cons (pd_callTy (o_str (o_strG T.o_Wish_str (ok_Wish___str__ T) (hr.mono (by decide)) T.b_Wish___str__ passL)) (by rfl) T.n_str (by decide +kernel) (pda_cons (pd_var (pv 6)) pda_nil)) (pda_cons (pd_callTy (o_str (o_strG T.o_Wish_str (ok_Wish___str__ T) (hr.mono (by decide)) T.b_Wish___str__ passL)) (by rfl) T.n_str (by decide +kernel) (pda_cons (pd_var (pv 6)) pda_nil)) pda_nil)))) (pd_lst (pda_cons (pd_var (pv 4)) (pda_cons (pd_var (pv 5)) (pda_cons (pd_var (pv 5)) pda_nil)))) (nomark _)) (pdss_one (pds_ret pd_bl)) pdss_nil)
  (pdss_cons (pds_set (i := 7) sc__law_right.nd rfl (unop% fd lr) (pd_callP hl_Wish_read (SL.pe_smeth (pe_glob (v := .ref (A.ad 5)) rfl T.g_Wish rfl) T.sm_Wish_read (ok_Wish_read T) (hr.mono (by decide)) T.b_Wish_read .nil passL (pda_cons (pd_var (pv 5)) pda_nil))) (fun _ => by decide))
  (pdss_cons (pds_set (i := 8) sc__law_right.nd rfl (unop% fd lr) (pd_lst (pda_cons (pd_fld T.kd T.fl_Wish_form (pd_var (pv 7))) (pda_cons (pd_cmp (o_eq hr.units (o_sel (o_eqC T.kd T.in_Wish T.o_Wish_eq (ok_Wish___eq__ T) (hr.mono (by decide)) T.b_Wish___eq__ passL) o_no)) (pd_callPK hl_Wish_read (prm_gv _) (SL.pe_smethK0 (pe_glob (v := .ref (A.ad 5)) rfl T.g_Wish rfl) T.sm_Wish_read (ok_Wish_read T) (hr.mono (by decide)) (T.kb_Wish_read_0_text).choose_spec passL (pdk_cons (pd_var (pv 5)) pdk_nil)) rfl) (pd_var (pv 6)) (nomark _)) (pda_cons (pd_cmp (o_eq hr.units (o_sel (o_eqC T.kd T.in_Wish T.o_Wish_eq (ok_Wish___eq__ T) (hr.mono (by decide)) T.b_Wish___eq__ passL) o_no)) (PE.imp (pe_makeK0 T.mk_Wish (ok_Wish___init__ T) (hr.mono (by decide)) (by rfl) T.g_Wish (T.kb_Wish___init___0_form).choose_spec passL (pdk_cons (pd_var (pv 4)) pdk_nil)) fun _ _ _ => makeK_use0 T.in_Wish hi_Wish___init__ (prm_gv _) (fun _ _ _ => rfl) rfl) (pd_var (pv 7)) (nomark _)) (pda_cons (pd_cmp (o_eq hr.units (o_sel (o_eqC T.kd T.in_Wish T.o_Wish_eq (ok_Wish___eq__ T) (hr.mono (by decide)) T.b_Wish___eq__ passL) o_no)) (pd_var (pv 6)) (pd_var (pv 4)) (nomark _)) pda_nil))))) (fun _ => by decide))
  (pdss_cons (pds_if (pdt_cmp (o_ne hr.units (neOf_sel (o_neC T.kd T.in_Wish T.o_Wish_eq T.ne_Wish T.ob_Wish (ok_Wish___eq__ T) (hr.mono (by decide)) T.b_Wish___eq__ passL) o_noNe)) (pd_var (pv 8)) (pd_lst (pda_cons (pd_var (pv 4)) (pda_cons pd_bl (pda_cons pd_bl (pda_cons pd_bl pda_nil))))) (nomark _)) (pdss_one (pds_ret pd_bl)) pdss_nil)
  (pdss_one (pds_expr (pd_append (pv 2) (pda_cons (pd_var (pv 6)) pda_nil) (fun h => pe_bm PySem.F.plainAttrs_list PySem.F.slot_list_append PySem.F.type_list_append h (pv 2) (pda_cons (pd_var (pv 6)) pda_nil))))))))))))
  (pdss_cons (pds_for pO rfl (pdi_val (pd_var (pv 2))) (pdg_name (pg_name (i := 9) sc__law_right.nd rfl (unop% fd lr))) (pdss_one (pds_if (pdt_cmp (o_ne hr.units (neOf_sel (o_neC T.kd T.in_Wish T.o_Wish_eq T.ne_Wish T.ob_Wish (ok_Wish___eq__ T) (hr.mono (by decide)) T.b_Wish___eq__ passL) o_noNe)) (pd_lc (by decide) (pe_lc (own := [("_law_that", 10)]) rfl sc__law_right.nd (pdi_val (pd_var (pv 2))) (blkOk_by (own := [("_law_that", 10)]) (N := nm__law_right) (sc := defScope st__law_right) (by decide +kernel)) (fun _ _ _ _ _ => (pdg_name (pg_name (i := 10) sc__law_right.nd rfl (unop% fd lr)))) (fun _ _ _ _ _ => pdts_nil) (fun _ _ _ _ _ => (pd_cmp (o_eq hr.units (o_sel (o_eqC T.kd T.in_Wish T.o_Wish_eq (ok_Wish___eq__ T) (hr.mono (by decide)) T.b_Wish___eq__ passL) o_no)) (pd_var (pv 9)) (pd_var (pv 10)) (nomark _))))) (pd_lc (by decide) (pe_lc (own := [("_law_that", 10)]) rfl sc__law_right.nd (pdi_val (pd_var (pv 2))) (blkOk_by (own := [("_law_that", 10)]) (N := nm__law_right) (sc := defScope st__law_right) (by decide +kernel)) (fun _ _ _ _ _ => (pdg_name (pg_name (i := 10) sc__law_right.nd rfl (unop% fd lr)))) (fun _ _ _ _ _ => pdts_nil) (fun _ _ _ _ _ => (pd_cmp (o_eq hr.units (o_sel (o_eqC T.kd T.in_Wish T.o_Wish_eq (ok_Wish___eq__ T) (hr.mono (by decide)) T.b_Wish___eq__ passL) o_no)) (pd_fld T.kd T.fl_Wish_form (pd_var (pv 9))) (pd_fld T.kd T.fl_Wish_form (pd_var (pv 10))) (nomark _))))) (nomark _)) (pdss_one (pds_ret pd_bl)) pdss_nil)))
  (pdss_one (pds_ret pd_bl))))))), enter_R (p := 1) rfl (by decide) (by rw [q__law_right] at h; exact h)⟩
theorem ok_law (T : Txt K mg base A x) : FnOk P w K mg base (L2.CX P w) 22 x.f_law x.d_law ["_law_cells"] (sp_law K) := by
  refine SL.fun_ok T.F_law sc_law (fun vs H Q E h => by obtain ⟨_, _, rfl, _⟩ := h; rfl) (fun cdv Ar outer s H vs Q E hr h => ?_)
  exact ⟨liftS K A none mm_law, (by unfold mm_law mt_law_4 mt_law_3 mt_law_2 mt_law_1; exact ((pdss_cons (pds_set (i := 1) sc_law.nd rfl (unop% fd lr) (pd_tup (pda_cons (pd_str (by decide +kernel)) (pda_cons (pd_tup (pda_cons (pd_str (by decide +kernel)) (pda_cons (pd_tup (pda_cons (pd_str (by decide +kernel)) (pda_cons (pd_str (by decide +kernel)) (pda_cons pd_int pda_nil)))) (pda_cons (pd_tup (pda_cons (pd_str (by decide +kernel)) (pda_cons (pd_str (by decide +kernel)) pda_nil))) (pda_cons (pd_tup (pda_cons (pd_bin (o_sub o_no) pd_int pd_int) (pda_cons pd_int pda_nil))) pda_nil))))) pda_nil))) (fun _ => by decide))
  (pdss_cons (pds_if (pdt_w (pdw_or (pdt_cmp (o_ne hr.units o_noNe) (pd_callTy (o_str (o_strG T.o_Wish_str (ok_Wish___str__ T) (hr.mono (by decide)) T.b_Wish___str__ passL)) (by rfl) T.n_str (by decide +kernel) (pda_cons (pd_make T.in_Wish hi_Wish___init__ (fun _ => .nil) T.mk_Wish (ok_Wish___init__ T) (hr.mono (by decide)) rfl T.g_Wish T.b_Wish___init__ .nil passL (pda_cons (pd_var (pv 1)) pda_nil)) pda_nil)) (pd_str (by decide +kernel)) (nomark _)) (pdw_or1 (pdt_cmp (o_ne hr.units o_noNe) (pd_fld T.kd T.fl_Wish_form (pd_callP hl_Wish_read (SL.pe_smeth (pe_glob (v := .ref (A.ad 5)) rfl T.g_Wish rfl) T.sm_Wish_read (ok_Wish_read T) (hr.mono (by decide)) T.b_Wish_read .nil passL (pda_cons (pd_str (by decide +kernel)) pda_nil)))) (pd_var (pv 1)) (nomark _))))) (pdss_one (pds_ret pd_bl)) pdss_nil)
  (pdss_cons (pds_set (i := 2) sc_law.nd rfl (unop% fd lr) (pd_str (by decide +kernel)) (fun _ => by decide))
  (pdss_cons (pds_set (i := 1) sc_law.nd rfl (unop% fd lr) (pd_tup (pda_cons (pd_str (by decide +kernel)) (pda_cons (pd_tup (pda_cons (pd_str (by decide +kernel)) (pda_cons (pd_tup (pda_cons (pd_str (by decide +kernel)) (pda_cons (pd_str (by decide +kernel)) (pda_cons (pd_str (by decide +kernel)) pda_nil)))) (pda_cons (pd_tup (pda_cons (pd_str (by decide +kernel)) pda_nil)) (pda_cons pd_int pda_nil))))) (pda_cons (pd_tup (pda_cons (pd_str (by decide +kernel)) (pda_cons (pd_tup (pda_cons (pd_str (by decide +kernel)) (pda_cons (pd_tup (pda_cons (pd_str (by decide +kernel)) pda_nil)) (pda_cons (pd_tup (pda_cons (pd_str (by decide +kernel)) (pda_cons (pd_str (by decide +kernel)) pda_nil))) (pda_cons pd_int pda_nil))))) (pda_cons (pd_tup (pda_cons (pd_str (by decide +kernel)) (pda_cons (pd_tup (pda_cons (pd_str (by decide +kernel)) (pda_cons (pd_str (by decide +kernel)) (pda_cons pd_int pda_nil)))) (pda_cons (pd_tup (pda_cons (pd_str (by decide +kernel)) (pda_cons (pd_str (by decide +kernel)) (pda_cons (pd_str (by decide +kernel)) pda_nil)))) (pda_cons (pd_bin (o_sub o_no) pd_int pd_int) pda_nil))))) (pda_cons (pd_tup (pda_cons (pd_str (by decide +kernel)) (pda_cons (pd_tup (pda_cons (pd_str (by decide +kernel)) (pda_cons (pd_str (by decide +kernel)) (pda_cons pd_int pda_nil)))) (pda_cons (pd_tup (pda_cons (pd_str (by decide +kernel)) (pda_cons (pd_str (by decide +kernel)) (pda_cons pd_int pda_nil)))) (pda_cons (pd_tup (pda_cons pd_int (pda_cons pd_int pda_nil))) pda_nil))))) pda_nil))))) pda_nil)))) (fun _ => by decide))
  (pdss_cons (pds_if (pdt_w (pdw_or (pdt_cmp (o_ne hr.units o_noNe) (pd_fld T.kd T.fl_Wish_form (pd_callP hl_Wish_read (SL.pe_smeth (pe_glob (v := .ref (A.ad 5)) rfl T.g_Wish rfl) T.sm_Wish_read (ok_Wish_read T) (hr.mono (by decide)) T.b_Wish_read .nil passL (pda_cons (pd_var (pv 2)) pda_nil)))) (pd_var (pv 1)) (nomark _)) (pdw_or1 (pdt_cmp (o_ne hr.units o_noNe) (pd_callTy (o_str (o_strG T.o_Wish_str (ok_Wish___str__ T) (hr.mono (by decide)) T.b_Wish___str__ passL)) (by rfl) T.n_str (by decide +kernel) (pda_cons (pd_make T.in_Wish hi_Wish___init__ (fun _ => .nil) T.mk_Wish (ok_Wish___init__ T) (hr.mono (by decide)) rfl T.g_Wish T.b_Wish___init__ .nil passL (pda_cons (pd_var (pv 1)) pda_nil)) pda_nil)) (pd_var (pv 2)) (nomark _))))) (pdss_one (pds_ret pd_bl)) pdss_nil)
  (pdss_one (pds_ret (pd_callB (o_all rfl) (by rfl) T.n_all (by decide +kernel) (pda_cons (pd_lc (by decide) (pe_lc (own := [("_law_k", 3)]) rfl sc_law.nd (pdi_range1 (by rfl) T.n_range (pda_cons (pd_callB (o_max rfl) (by rfl) T.n_max (by decide +kernel) (pda_cons pd_int (pda_cons (pd_callB (o_min rfl) (by rfl) T.n_min (by decide +kernel) (pda_cons (PE.imp (pe_callB (o_lenb o_noN) (by rfl) T.n_len (by decide +kernel) (pa_cons (pv 0) pa_nil)) fun _ _ _ => bor1_use (nf_len nf_no1)) (pda_cons pd_int pda_nil))) pda_nil))) pda_nil)) (blkOk_by (own := [("_law_k", 3)]) (N := nm_law) (sc := defScope st_law) (by decide +kernel)) (fun _ _ _ _ _ => (pdg_name (pg_name (i := 3) sc_law.nd rfl (unop% fd lr)))) (fun _ _ _ _ _ => pdts_nil) (fun _ _ _ _ _ => (pd_callT (ok__law_right T) rfl rfl (hr.mono (by decide)) rfl T.g__law_right T.kp__law_right T.b__law_right passL (pat_nil (pd_call hl__law_bag (ok__law_bag T) (hr.mono (by decide)) rfl T.g__law_bag T.kp__law_bag T.b__law_bag passL (pda_cons (pd_var (pv 0)) (pda_cons (pd_var (pv 3)) pda_nil)))))))) pda_nil))))))))))), enter_F (p := 1) rfl (by decide) (by have h := sp_of (A := A) T.b0 law_true h; rw [q_law] at h; exact h)⟩
end
end Tbs
theorem okLaw : OkLaw := fun _ _ _ _ _ _ _ T => ok_law T
end DY
/- these names are taken so that the head lays no copies of its heaps and trees, which nothing needs -/
theorem PySem.W.Fast.tw15866258718009305580 : True := trivial
theorem PySem.W.Fast.tw1956027117882122670 : True := trivial
theorem PySem.W.Fast.tw639113419335357752 : True := trivial
theorem PySem.W.Fast.tw10834190250607449923 : True := trivial
theorem PySem.W.Fast.tw17084252821739702793 : True := trivial
theorem PySem.W.Fast.tw8027879290657025018 : True := trivial
theorem PySem.W.Fast.tw13202550271935274438 : True := trivial
theorem PySem.W.Fast.tw6763282741736582394 : True := trivial
theorem PySem.W.Fast.tw12275417169837835182 : True := trivial
theorem PySem.W.Fast.tw11857975222479736774 : True := trivial
theorem PySem.W.Fast.tw2485104086441669941 : True := trivial
theorem PySem.W.Fast.tw10047399278625836492 : True := trivial
theorem PySem.W.Fast.tw9930352134960664786 : True := trivial
theorem PySem.W.Fast.tw12265211719585206494 : True := trivial
theorem PySem.W.Fast.tw9925905060978675635 : True := trivial
theorem PySem.W.Fast.tw263754745035759396 : True := trivial
theorem PySem.W.Fast.tw11076271046535204452 : True := trivial
open PySem PySem.W PyProof.Rows
set_option maxRecDepth 100000 in
set_option maxHeartbeats 0 in
theorem PySem.Challenge.cw_slackstrings_k17_whole_texts_of_wishes_holds : PySem.Challenge.rw_slackstrings_k17_whole_texts_of_wishes.Holds := by
  w_on; o_law; k_head; (case hw => w_witness2)
  k_fill
  refine DY.walk (l := PySem.Challenge.rw_slackstrings_k17_whole_texts_of_wishes) rfl rfl (fun w h Y => by first | exact PySem.W.kIn_of Y | exact PySem.W.km_in_of Y) ?F
  case F =>
    intro w mg fa h KX G hmg tab
    refine' DY.all_mk DY.okLaw KX G hmg tab ?aC_Ratio ?aC_Wish ?a_are_great ?E_are_great ?a_are_small ?E_are_small ?a_is_integer ?E_is_integer ?a_is_number ?l_is_number ?c_is_number ?k_is_number ?t_is_number ?u_is_number ?a_is_moment ?E_is_moment ?a_is_level ?E_is_level ?a_shared_factor ?E_shared_factor ?a_is_more ?E_is_more ?a_is_headed ?E_is_headed ?a_overs_in ?E_overs_in ?a_Wish___init__ ?i_Wish___init__ ?E_Wish___init__ ?a_Ratio___str__ ?i_Ratio___str__ ?E_Ratio___str__ ?a_Ratio___init__ ?i_Ratio___init__ ?l_Ratio___init__ ?c_Ratio___init__ ?k_Ratio___init__ ?t_Ratio___init__ ?u_Ratio___init__ ?a_more_of ?E_more_of ?a_text_of_level ?E_text_of_level ?a_text_of_r0 ?E_text_of_r0 ?a_text_of_r1 ?E_text_of_r1 ?a_text_of_r2 ?E_text_of_r2 ?a_text_of_r3 ?E_text_of_r3 ?a_Wish___str__ ?i_Wish___str__ ?E_Wish___str__ ?a_form_in_r0 ?E_form_in_r0 ?a_level_in ?E_level_in ?a_is_written ?E_is_written ?a_ratio_in ?E_ratio_in ?a_more_in ?E_more_in ?a_form_in_r1 ?E_form_in_r1 ?a_form_in_r2 ?E_form_in_r2 ?a_form_in_r3 ?E_form_in_r3 ?a_nested ?E_nested ?a_wish_in ?E_wish_in ?s0_Wish_read ?s1_Wish_read ?s2_Wish_read ?s3_Wish_read ?s4_Wish_read ?s5_Wish_read ?E_Wish_read ?a__law_bag ?E__law_bag ?a_Wish___eq__ ?i_Wish___eq__ ?E_Wish___eq__ ?a__law_draw ?E__law_draw ?a__law_one ?E__law_one ?a__law_level ?E__law_level ?a__law_more ?E__law_more ?a__law_plea_r0 ?E__law_plea_r0 ?a__law_plea_r1 ?E__law_plea_r1 ?a__law_plea_r2 ?E__law_plea_r2 ?a__law_plea_r3 ?E__law_plea_r3 ?a__law_cords ?E__law_cords ?a__law_letters ?E__law_letters ?a__law_words ?E__law_words ?a__law_shape ?E__law_shape ?a__law_level_text ?E__law_level_text ?a__law_written_r0 ?E__law_written_r0 ?a__law_written_r1 ?E__law_written_r1 ?a__law_written_r2 ?E__law_written_r2 ?a__law_written_r3 ?E__law_written_r3 ?a__law_right ?E__law_right ?a_law ?l_law ?c_law ?k_law ?z_abs ?z_all ?z_bool ?z_int ?z_isinstance ?z_len ?z_list ?z_max ?z_min ?z_range ?z_sorted ?z_str ?z_tuple ?kc_LONGEST ?kc_MOST_DEPTH ?kc_MOST_MOVES ?kc_MOST_OVERS ?kc_MOST_WISHES ?pg_Ratio ?hd_Ratio ?po_Ratio ?sa_Ratio ?mk_Ratio ?kc_Ratio ?sf_Ratio ?si_Ratio ?sj_Ratio ?ha_Ratio ?hm_Ratio ?kb_Ratio_int ?kb_Ratio_bool ?kb_Ratio_str ?kb_Ratio_tuple ?kb_Ratio_list ?kb_Ratio_dict ?kt_Ratio_NoneType ?nf_Ratio_NoneType ?kt_Ratio_bool ?nf_Ratio_bool ?kt_Ratio_int ?nf_Ratio_int ?kt_Ratio_str ?nf_Ratio_str ?kt_Ratio_list ?nf_Ratio_list ?kt_Ratio_tuple ?nf_Ratio_tuple ?kt_Ratio_dict ?nf_Ratio_dict ?nn_Ratio_Ratio ?cc_Ratio_Wish ?nn_Ratio_Wish ?pg_Wish ?hd_Wish ?po_Wish ?sa_Wish ?mk_Wish ?kc_Wish ?sf_Wish ?si_Wish ?sj_Wish ?ha_Wish ?hm_Wish ?kb_Wish_int ?kb_Wish_bool ?kb_Wish_str ?kb_Wish_tuple ?kb_Wish_list ?kb_Wish_dict ?kt_Wish_NoneType ?nf_Wish_NoneType ?kt_Wish_bool ?nf_Wish_bool ?kt_Wish_int ?nf_Wish_int ?kt_Wish_str ?nf_Wish_str ?kt_Wish_list ?nf_Wish_list ?kt_Wish_tuple ?nf_Wish_tuple ?kt_Wish_dict ?nf_Wish_dict ?cc_Wish_Ratio ?nn_Wish_Ratio ?nn_Wish_Wish ?hn ?ht ?na_Ratio_bottom ?na_Ratio_top ?na_Wish_form ?ne_Wish ?ob_Wish
    (case aC_Ratio => k_is); (case aC_Wish => k_is); (case a_are_great => k_is); (case E_are_great => as_aux_lemma => (refine' ⟨_, L2.fun_mk ?zl ?zc ?zk⟩; (case zl => k_is); (case zc => k_is); (case zk => k_is))); (case a_are_small => k_is); (case E_are_small => as_aux_lemma => (refine' ⟨_, L2.fun_mk ?zl ?zc ?zk⟩; (case zl => k_is); (case zc => k_is); (case zk => k_is))); (case a_is_integer => k_is); (case E_is_integer => as_aux_lemma => (refine' ⟨_, L2.fun_mk ?zl ?zc ?zk⟩; (case zl => k_is); (case zc => k_is); (case zk => k_is)))
    (case a_is_number => k_is); (case l_is_number => k_is); (case c_is_number => k_is); (case k_is_number => as_aux_lemma => k_is); (case t_is_number => k_is); (case u_is_number => exact (.cons rfl .nil)); (case a_is_moment => k_is); (case E_is_moment => as_aux_lemma => (refine' ⟨_, L2.fun_mk ?zl ?zc ?zk⟩; (case zl => k_is); (case zc => k_is); (case zk => k_is)))
    (case a_is_level => k_is); (case E_is_level => as_aux_lemma => (refine' ⟨_, L2.fun_mk ?zl ?zc ?zk⟩; (case zl => k_is); (case zc => k_is); (case zk => k_is))); (case a_shared_factor => k_is); (case E_shared_factor => as_aux_lemma => (refine' ⟨_, L2.fun_mk ?zl ?zc ?zk⟩; (case zl => k_is); (case zc => k_is); (case zk => k_is))); (case a_is_more => k_is); (case E_is_more => as_aux_lemma => (refine' ⟨_, L2.fun_mk ?zl ?zc ?zk⟩; (case zl => k_is); (case zc => k_is); (case zk => k_is))); (case a_is_headed => k_is); (case E_is_headed => as_aux_lemma => (refine' ⟨_, L2.fun_mk ?zl ?zc ?zk⟩; (case zl => k_is); (case zc => k_is); (case zk => k_is)))
    (case a_overs_in => k_is); (case E_overs_in => as_aux_lemma => (refine' ⟨_, L2.fun_mk ?zl ?zc ?zk⟩; (case zl => k_is); (case zc => k_is); (case zk => k_is))); (case a_Wish___init__ => k_is); (case i_Wish___init__ => as_aux_lemma => k_is); (case E_Wish___init__ => as_aux_lemma => (refine' ⟨_, L2.fun_mk ?zl ?zc ?zk⟩; (case zl => k_is); (case zc => k_is); (case zk => k_is))); (case a_Ratio___str__ => k_is); (case i_Ratio___str__ => as_aux_lemma => k_is); (case E_Ratio___str__ => as_aux_lemma => (refine' ⟨_, L2.fun_mk ?zl ?zc ?zk⟩; (case zl => k_is); (case zc => k_is); (case zk => k_is)))
    (case a_Ratio___init__ => k_is); (case i_Ratio___init__ => as_aux_lemma => k_is); (case l_Ratio___init__ => k_is); (case c_Ratio___init__ => k_is); (case k_Ratio___init__ => as_aux_lemma => k_is); (case t_Ratio___init__ => k_is); (case u_Ratio___init__ => exact (.cons ⟨_, rfl⟩ .nil)); (case a_more_of => k_is)
    (case E_more_of => as_aux_lemma => (refine' ⟨_, L2.fun_mk ?zl ?zc ?zk⟩; (case zl => k_is); (case zc => k_is); (case zk => k_is))); (case a_text_of_level => k_is); (case E_text_of_level => as_aux_lemma => (refine' ⟨_, L2.fun_mk ?zl ?zc ?zk⟩; (case zl => k_is); (case zc => k_is); (case zk => k_is))); (case a_text_of_r0 => k_is); (case E_text_of_r0 => as_aux_lemma => (refine' ⟨_, L2.fun_mk ?zl ?zc ?zk⟩; (case zl => k_is); (case zc => k_is); (case zk => k_is))); (case a_text_of_r1 => k_is); (case E_text_of_r1 => as_aux_lemma => (refine' ⟨_, L2.fun_mk ?zl ?zc ?zk⟩; (case zl => k_is); (case zc => k_is); (case zk => k_is))); (case a_text_of_r2 => k_is)
    (case E_text_of_r2 => as_aux_lemma => (refine' ⟨_, L2.fun_mk ?zl ?zc ?zk⟩; (case zl => k_is); (case zc => k_is); (case zk => k_is))); (case a_text_of_r3 => k_is); (case E_text_of_r3 => as_aux_lemma => (refine' ⟨_, L2.fun_mk ?zl ?zc ?zk⟩; (case zl => k_is); (case zc => k_is); (case zk => k_is))); (case a_Wish___str__ => k_is); (case i_Wish___str__ => as_aux_lemma => k_is); (case E_Wish___str__ => as_aux_lemma => (refine' ⟨_, L2.fun_mk ?zl ?zc ?zk⟩; (case zl => k_is); (case zc => k_is); (case zk => k_is))); (case a_form_in_r0 => k_is); (case E_form_in_r0 => as_aux_lemma => (refine' ⟨_, L2.fun_mk ?zl ?zc ?zk⟩; (case zl => k_is); (case zc => k_is); (case zk => k_is)))
    (case a_level_in => k_is); (case E_level_in => as_aux_lemma => (refine' ⟨_, L2.fun_mk ?zl ?zc ?zk⟩; (case zl => k_is); (case zc => k_is); (case zk => k_is))); (case a_is_written => k_is); (case E_is_written => as_aux_lemma => (refine' ⟨_, L2.fun_mk ?zl ?zc ?zk⟩; (case zl => k_is); (case zc => k_is); (case zk => k_is))); (case a_ratio_in => k_is); (case E_ratio_in => as_aux_lemma => (refine' ⟨_, L2.fun_mk ?zl ?zc ?zk⟩; (case zl => k_is); (case zc => k_is); (case zk => k_is))); (case a_more_in => k_is); (case E_more_in => as_aux_lemma => (refine' ⟨_, L2.fun_mk ?zl ?zc ?zk⟩; (case zl => k_is); (case zc => k_is); (case zk => k_is)))
    (case a_form_in_r1 => k_is); (case E_form_in_r1 => as_aux_lemma => (refine' ⟨_, L2.fun_mk ?zl ?zc ?zk⟩; (case zl => k_is); (case zc => k_is); (case zk => k_is))); (case a_form_in_r2 => k_is); (case E_form_in_r2 => as_aux_lemma => (refine' ⟨_, L2.fun_mk ?zl ?zc ?zk⟩; (case zl => k_is); (case zc => k_is); (case zk => k_is))); (case a_form_in_r3 => k_is); (case E_form_in_r3 => as_aux_lemma => (refine' ⟨_, L2.fun_mk ?zl ?zc ?zk⟩; (case zl => k_is); (case zc => k_is); (case zk => k_is))); (case a_nested => k_is); (case E_nested => as_aux_lemma => (refine' ⟨_, L2.fun_mk ?zl ?zc ?zk⟩; (case zl => k_is); (case zc => k_is); (case zk => k_is)))
    (case a_wish_in => k_is); (case E_wish_in => as_aux_lemma => (refine' ⟨_, L2.fun_mk ?zl ?zc ?zk⟩; (case zl => k_is); (case zc => k_is); (case zk => k_is))); (case s0_Wish_read => k_is); (case s1_Wish_read => k_is); (case s2_Wish_read => k_is); (case s3_Wish_read => as_aux_lemma => k_is); (case s4_Wish_read => as_aux_lemma => k_is); (case s5_Wish_read => as_aux_lemma => k_is)
    (case E_Wish_read => as_aux_lemma => (refine' ⟨_, L2.fun_mk ?zl ?zc ?zk⟩; (case zl => k_is); (case zc => k_is); (case zk => k_is))); (case a__law_bag => k_is); (case E__law_bag => as_aux_lemma => (refine' ⟨_, L2.fun_mk ?zl ?zc ?zk⟩; (case zl => k_is); (case zc => k_is); (case zk => k_is))); (case a_Wish___eq__ => k_is); (case i_Wish___eq__ => as_aux_lemma => k_is); (case E_Wish___eq__ => as_aux_lemma => (refine' ⟨_, L2.fun_mk ?zl ?zc ?zk⟩; (case zl => k_is); (case zc => k_is); (case zk => k_is))); (case a__law_draw => k_is); (case E__law_draw => as_aux_lemma => (refine' ⟨_, L2.fun_mk ?zl ?zc ?zk⟩; (case zl => k_is); (case zc => k_is); (case zk => k_is)))
    (case a__law_one => k_is); (case E__law_one => as_aux_lemma => (refine' ⟨_, L2.fun_mk ?zl ?zc ?zk⟩; (case zl => k_is); (case zc => k_is); (case zk => k_is))); (case a__law_level => k_is); (case E__law_level => as_aux_lemma => (refine' ⟨_, L2.fun_mk ?zl ?zc ?zk⟩; (case zl => k_is); (case zc => k_is); (case zk => k_is))); (case a__law_more => k_is); (case E__law_more => as_aux_lemma => (refine' ⟨_, L2.fun_mk ?zl ?zc ?zk⟩; (case zl => k_is); (case zc => k_is); (case zk => k_is))); (case a__law_plea_r0 => k_is); (case E__law_plea_r0 => as_aux_lemma => (refine' ⟨_, L2.fun_mk ?zl ?zc ?zk⟩; (case zl => k_is); (case zc => k_is); (case zk => k_is)))
    (case a__law_plea_r1 => k_is); (case E__law_plea_r1 => as_aux_lemma => (refine' ⟨_, L2.fun_mk ?zl ?zc ?zk⟩; (case zl => k_is); (case zc => k_is); (case zk => k_is))); (case a__law_plea_r2 => k_is); (case E__law_plea_r2 => as_aux_lemma => (refine' ⟨_, L2.fun_mk ?zl ?zc ?zk⟩; (case zl => k_is); (case zc => k_is); (case zk => k_is))); (case a__law_plea_r3 => k_is); (case E__law_plea_r3 => as_aux_lemma => (refine' ⟨_, L2.fun_mk ?zl ?zc ?zk⟩; (case zl => k_is); (case zc => k_is); (case zk => k_is))); (case a__law_cords => k_is); (case E__law_cords => as_aux_lemma => (refine' ⟨_, L2.fun_mk ?zl ?zc ?zk⟩; (case zl => k_is); (case zc => k_is); (case zk => k_is)))
    (case a__law_letters => k_is); (case E__law_letters => as_aux_lemma => (refine' ⟨_, L2.fun_mk ?zl ?zc ?zk⟩; (case zl => k_is); (case zc => k_is); (case zk => k_is))); (case a__law_words => k_is); (case E__law_words => as_aux_lemma => (refine' ⟨_, L2.fun_mk ?zl ?zc ?zk⟩; (case zl => k_is); (case zc => k_is); (case zk => k_is))); (case a__law_shape => k_is); (case E__law_shape => as_aux_lemma => (refine' ⟨_, L2.fun_mk ?zl ?zc ?zk⟩; (case zl => k_is); (case zc => k_is); (case zk => k_is))); (case a__law_level_text => k_is); (case E__law_level_text => as_aux_lemma => (refine' ⟨_, L2.fun_mk ?zl ?zc ?zk⟩; (case zl => k_is); (case zc => k_is); (case zk => k_is)))
    (case a__law_written_r0 => k_is); (case E__law_written_r0 => as_aux_lemma => (refine' ⟨_, L2.fun_mk ?zl ?zc ?zk⟩; (case zl => k_is); (case zc => k_is); (case zk => k_is))); (case a__law_written_r1 => k_is); (case E__law_written_r1 => as_aux_lemma => (refine' ⟨_, L2.fun_mk ?zl ?zc ?zk⟩; (case zl => k_is); (case zc => k_is); (case zk => k_is))); (case a__law_written_r2 => k_is); (case E__law_written_r2 => as_aux_lemma => (refine' ⟨_, L2.fun_mk ?zl ?zc ?zk⟩; (case zl => k_is); (case zc => k_is); (case zk => k_is))); (case a__law_written_r3 => k_is); (case E__law_written_r3 => as_aux_lemma => (refine' ⟨_, L2.fun_mk ?zl ?zc ?zk⟩; (case zl => k_is); (case zc => k_is); (case zk => k_is)))
    (case a__law_right => k_is); (case E__law_right => as_aux_lemma => (refine' ⟨_, L2.fun_mk ?zl ?zc ?zk⟩; (case zl => k_is); (case zc => k_is); (case zk => k_is))); (case a_law => k_is); (case l_law => k_is); (case c_law => k_is); (case k_law => as_aux_lemma => k_is); (case z_abs => as_aux_lemma => k_is); (case z_all => as_aux_lemma => k_is)
    (case z_bool => as_aux_lemma => k_is); (case z_int => as_aux_lemma => k_is); (case z_isinstance => as_aux_lemma => k_is); (case z_len => as_aux_lemma => k_is); (case z_list => as_aux_lemma => k_is); (case z_max => as_aux_lemma => k_is); (case z_min => as_aux_lemma => k_is); (case z_range => as_aux_lemma => k_is)
    (case z_sorted => as_aux_lemma => k_is); (case z_str => as_aux_lemma => k_is); (case z_tuple => as_aux_lemma => k_is); (case kc_LONGEST => k_is); (case kc_MOST_DEPTH => k_is); (case kc_MOST_MOVES => k_is); (case kc_MOST_OVERS => k_is); (case kc_MOST_WISHES => k_is)
    (case pg_Ratio => as_aux_lemma => k_is); (case hd_Ratio => as_aux_lemma => k_is); (case po_Ratio => as_aux_lemma => k_is); (case sa_Ratio => as_aux_lemma => k_is); (case mk_Ratio => as_aux_lemma => k_is); (case kc_Ratio => k_is); (case sf_Ratio => as_aux_lemma => k_is); (case si_Ratio => as_aux_lemma => k_is)
    (case sj_Ratio => as_aux_lemma => k_is); (case ha_Ratio => as_aux_lemma => k_is); (case hm_Ratio => as_aux_lemma => k_is); (case kb_Ratio_int => as_aux_lemma => kit_is); (case kb_Ratio_bool => as_aux_lemma => kit_is); (case kb_Ratio_str => as_aux_lemma => kit_is); (case kb_Ratio_tuple => as_aux_lemma => kit_is); (case kb_Ratio_list => as_aux_lemma => kit_is)
    (case kb_Ratio_dict => as_aux_lemma => kit_is); (case kt_Ratio_NoneType => as_aux_lemma => kit_is); (case nf_Ratio_NoneType => as_aux_lemma => k_is); (case kt_Ratio_bool => as_aux_lemma => kit_is); (case nf_Ratio_bool => as_aux_lemma => k_is); (case kt_Ratio_int => as_aux_lemma => kit_is); (case nf_Ratio_int => as_aux_lemma => k_is); (case kt_Ratio_str => as_aux_lemma => kit_is)
    (case nf_Ratio_str => as_aux_lemma => k_is); (case kt_Ratio_list => as_aux_lemma => kit_is); (case nf_Ratio_list => as_aux_lemma => k_is); (case kt_Ratio_tuple => as_aux_lemma => kit_is); (case nf_Ratio_tuple => as_aux_lemma => k_is); (case kt_Ratio_dict => as_aux_lemma => kit_is); (case nf_Ratio_dict => as_aux_lemma => k_is); (case nn_Ratio_Ratio => as_aux_lemma => k_is)
    (case cc_Ratio_Wish => kit_is); (case nn_Ratio_Wish => as_aux_lemma => k_is); (case pg_Wish => as_aux_lemma => k_is); (case hd_Wish => as_aux_lemma => k_is); (case po_Wish => as_aux_lemma => k_is); (case sa_Wish => as_aux_lemma => k_is); (case mk_Wish => as_aux_lemma => k_is); (case kc_Wish => k_is)
    (case sf_Wish => as_aux_lemma => k_is); (case si_Wish => as_aux_lemma => k_is); (case sj_Wish => as_aux_lemma => k_is); (case ha_Wish => as_aux_lemma => k_is); (case hm_Wish => as_aux_lemma => k_is); (case kb_Wish_int => as_aux_lemma => kit_is); (case kb_Wish_bool => as_aux_lemma => kit_is); (case kb_Wish_str => as_aux_lemma => kit_is)
    (case kb_Wish_tuple => as_aux_lemma => kit_is); (case kb_Wish_list => as_aux_lemma => kit_is); (case kb_Wish_dict => as_aux_lemma => kit_is); (case kt_Wish_NoneType => as_aux_lemma => kit_is); (case nf_Wish_NoneType => as_aux_lemma => k_is); (case kt_Wish_bool => as_aux_lemma => kit_is); (case nf_Wish_bool => as_aux_lemma => k_is); (case kt_Wish_int => as_aux_lemma => kit_is)
    (case nf_Wish_int => as_aux_lemma => k_is); (case kt_Wish_str => as_aux_lemma => kit_is); (case nf_Wish_str => as_aux_lemma => k_is); (case kt_Wish_list => as_aux_lemma => kit_is); (case nf_Wish_list => as_aux_lemma => k_is); (case kt_Wish_tuple => as_aux_lemma => kit_is); (case nf_Wish_tuple => as_aux_lemma => k_is); (case kt_Wish_dict => as_aux_lemma => kit_is)
    (case nf_Wish_dict => as_aux_lemma => k_is); (case cc_Wish_Ratio => kit_is); (case nn_Wish_Ratio => as_aux_lemma => k_is); (case nn_Wish_Wish => as_aux_lemma => k_is); (case hn => as_aux_lemma => k_is); (case ht => as_aux_lemma => k_is); (case na_Ratio_bottom => as_aux_lemma => k_is); (case na_Ratio_top => as_aux_lemma => k_is)
    (case na_Wish_form => as_aux_lemma => k_is); (case ne_Wish => as_aux_lemma => k_is); (case ob_Wish => as_aux_lemma => k_is)
