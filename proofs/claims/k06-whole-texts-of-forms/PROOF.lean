import PyProof.Rows.All
import Wide.All
import OpenK.AllK
import Wide.FinOn
import PyProof.TwoTypes
import PyProof.ListMulRight
import PyProof.NeKinds
import PyProof.InstNe
import KE.KOpsOwn
import HandS.ForMost
import HandS.ForExc
import HandS.Defaults
import HandS.MakeKw
import HandS.MakeKwOnly
import HandS.IsInst
import HandS.Wide
import HandS.EndBits
import HandS.FStr
import HandS.DictComp
import HandS.Walk
import HandS.Zip
import HandS.RaiseMore
import HandS.Steps
import KE.KCallOwn
import PySem.Challenge.RW_slackstrings_k06_whole_texts_of_forms
set_option Elab.async false
set_option linter.all false
set_option maxRecDepth 100000
namespace SL

/-! ### sizes -/
/-- below 2 ^ k in size -/
def Bd (k : Nat) (z : Int) : Prop := z.natAbs < 2 ^ k
theorem Bd.mono {a b : Nat} {z : Int} (h : Bd a z) (l : a ≤ b) : Bd b z := Nat.lt_of_lt_of_le h (Nat.pow_le_pow_right (by decide) l)
theorem Bd.mul {a b : Nat} {x y : Int} (h : Bd a x) (h' : Bd b y) : Bd (a + b) (x * y) := by
  unfold Bd
  rw [Int.natAbs_mul, Nat.pow_add]
  exact Nat.mul_lt_mul'' h h'
theorem Bd.add {a : Nat} {x y : Int} (h : Bd a x) (h' : Bd a y) : Bd (a + 1) (x + y) := by
  unfold Bd at *
  rw [Nat.pow_succ]
  have := Int.natAbs_add_le x y
  omega
theorem Bd.neg {a : Nat} {x : Int} (h : Bd a x) : Bd a (-x) := by
  unfold Bd at *
  rw [Int.natAbs_neg]
  exact h
theorem Bd.sub {a : Nat} {x y : Int} (h : Bd a x) (h' : Bd a y) : Bd (a + 1) (x - y) := by
  rw [Int.sub_eq_add_neg]
  exact Bd.add h h'.neg
theorem Bd.of_le {a : Nat} {x y : Int} (h : Bd a y) (l : x.natAbs ≤ y.natAbs) : Bd a x := Nat.lt_of_le_of_lt l h
theorem Bd.small {x : Int} {k : Nat} (hk : 64 ≤ k) (h0 : -1000000000000 ≤ x) (h1 : x ≤ 1000000000000) : Bd k x := by
  refine Bd.mono (a := 64) ?_ hk
  unfold Bd
  have : (2 : Nat) ^ 64 = 18446744073709551616 := by decide
  omega

/-! ### lowest terms -/
/-- the greatest common divisor as an int -/
def gI (n d : Int) : Int := (Int.gcd n d : Int)
theorem gI_pos {n d : Int} (h : d ≠ 0) : 0 < gI n d := by
  unfold gI
  have : 0 < Int.gcd n d := Int.gcd_pos_of_ne_zero_right n h
  omega
theorem gI_nonneg (n d : Int) : 0 ≤ gI n d := by unfold gI; omega
theorem gI_dvd_left (n d : Int) : gI n d ∣ n := Int.gcd_dvd_left ..
theorem gI_dvd_right (n d : Int) : gI n d ∣ d := Int.gcd_dvd_right ..
/-- numerator and denominator in lowest terms -/
def nm (n d : Int) : Int := n / gI n d
def dn (n d : Int) : Int := d / gI n d
theorem nm_mul (n d : Int) : nm n d * gI n d = n := Int.ediv_mul_cancel (gI_dvd_left n d)
theorem dn_mul (n d : Int) : dn n d * gI n d = d := Int.ediv_mul_cancel (gI_dvd_right n d)
theorem dn_pos {n d : Int} (h : 0 < d) : 0 < dn n d := by
  have e := dn_mul n d
  have g := gI_pos (n := n) (d := d) (by omega)
  rcases Int.lt_or_le 0 (dn n d) with q | q
  · exact q
  · exfalso
    have : dn n d * gI n d ≤ 0 := Int.mul_nonpos_of_nonpos_of_nonneg q (by omega)
    omega
theorem nm_dn_gcd {n d : Int} (h : d ≠ 0) : Int.gcd (nm n d) (dn n d) = 1 := by
  have g := gI_pos (n := n) (d := d) h
  unfold nm dn gI at *
  have h0 : 0 < Int.gcd n d := by omega
  rw [Int.gcd_ediv (Int.gcd_dvd_left ..) (Int.gcd_dvd_right ..)]
  simp
  exact Nat.div_self h0
theorem nm_cross (n d : Int) : nm n d * d = n * dn n d := by
  have a := nm_mul n d
  have b := dn_mul n d
  calc nm n d * d = nm n d * (dn n d * gI n d) := by rw [b]
    _ = (nm n d * gI n d) * dn n d := by rw [Int.mul_comm (dn n d), Int.mul_assoc]
    _ = n * dn n d := by rw [a]
/-- lowest terms are unique -/
theorem dvd_of_gcd {a b d : Int} (h : b ∣ a * d) (g : Int.gcd a b = 1) : b ∣ d := by
  rw [← Int.natAbs_dvd_natAbs] at h ⊢
  rw [Int.natAbs_mul] at h
  exact Nat.Coprime.dvd_of_dvd_mul_left (by rw [Nat.coprime_comm]; exact g) h
theorem low_uniq {a b c d : Int} (hb : 0 < b) (hd : 0 < d) (h1 : Int.gcd a b = 1) (h2 : Int.gcd c d = 1) (e : a * d = c * b) : a = c ∧ b = d := by
  have bd : b ∣ d := by
    have : b ∣ a * d := ⟨c, by rw [e, Int.mul_comm]⟩
    exact dvd_of_gcd this h1
  have db : d ∣ b := by
    have : d ∣ c * b := ⟨a, by rw [← e, Int.mul_comm]⟩
    exact dvd_of_gcd this h2
  have ebd : b = d := Int.dvd_antisymm (by omega) (by omega) bd db
  subst ebd
  exact ⟨Int.eq_of_mul_eq_mul_right (by omega) e, rfl⟩
theorem nm_dn_eq {n d m e : Int} (hd : 0 < d) (he : 0 < e) (h : n * e = m * d) : nm n d = nm m e ∧ dn n d = dn m e := by
  refine low_uniq (dn_pos hd) (dn_pos he) (nm_dn_gcd (by omega)) (nm_dn_gcd (by omega)) ?_
  have c1 := nm_cross n d
  have c2 := nm_cross m e
  have : (nm n d * dn m e) * (d * e) = (nm m e * dn n d) * (d * e) := by
    calc (nm n d * dn m e) * (d * e) = (nm n d * d) * (dn m e * e) := by ac_rfl
      _ = (n * dn n d) * (dn m e * e) := by rw [c1]
      _ = (n * e) * (dn n d * dn m e) := by ac_rfl
      _ = (m * d) * (dn n d * dn m e) := by rw [h]
      _ = (m * dn m e) * (dn n d * d) := by ac_rfl
      _ = (nm m e * e) * (dn n d * d) := by rw [c2]
      _ = (nm m e * dn n d) * (d * e) := by ac_rfl
  exact Int.eq_of_mul_eq_mul_right (by have := Int.mul_pos hd he; omega) this
theorem low_self {n d : Int} (hd : 0 < d) (h : Int.gcd n d = 1) : nm n d = n ∧ dn n d = d := by
  unfold nm dn gI
  rw [h]
  simp
theorem nm_natAbs_le (n d : Int) : (nm n d).natAbs ≤ n.natAbs := by
  by_cases h : gI n d = 0
  · unfold nm; rw [h]; simp
  · have e := nm_mul n d
    have : n.natAbs = (nm n d).natAbs * (gI n d).natAbs := by rw [← Int.natAbs_mul, e]
    rw [this]
    exact Nat.le_mul_of_pos_right _ (by omega)
theorem dn_natAbs_le (n d : Int) : (dn n d).natAbs ≤ d.natAbs := by
  by_cases h : gI n d = 0
  · unfold dn; rw [h]; simp
  · have e := dn_mul n d
    have : d.natAbs = (dn n d).natAbs * (gI n d).natAbs := by rw [← Int.natAbs_mul, e]
    rw [this]
    exact Nat.le_mul_of_pos_right _ (by omega)
theorem gI_le {n d : Int} (h : 0 < d) : (gI n d).natAbs ≤ d.natAbs := by
  have : gI n d ≤ d := Int.le_of_dvd h (gI_dvd_right n d)
  have := gI_nonneg n d
  omega
/-- one turn of the gcd's loop -/
theorem gcd_turn {h l : Int} (hh : 0 ≤ h) (hl : 0 < l) : gI l (h.fmod l) = gI h l := by
  unfold gI
  rw [Int.fmod_eq_emod_of_nonneg h (by omega)]
  rw [Int.gcd_comm h l]
  congr 1
  rw [Int.emod_def, Int.mul_comm]
  exact Int.gcd_sub_mul_right_right ..
theorem gI_zero {h : Int} (hh : 0 ≤ h) : gI h 0 = h := by
  unfold gI
  rw [Int.gcd_zero_right]
  omega
theorem gI_abs (n d : Int) : gI (if n < 0 then -n else n) (if d < 0 then -d else d) = gI n d := by
  unfold gI
  split <;> split <;> simp
end SL

set_option Elab.async false
set_option linter.all false
set_option maxRecDepth 100000
set_option maxHeartbeats 4000000
namespace SL
open PySem L2 PySem.Spec PyProof.Rows

section
variable {X : Cx} {pins : List (Addr × Obj)} {σ : L2.St} {H : Hp} {s : Shared} {a C dx : Addr} {fs : List (Str × V)}
theorem inst_of (I : Inv X pins σ H s) (e : H a = some (.ins C dx fs)) : ∃ od, PySem.W.InstAt s.heap a (PySem.W.instObj C dx) C (some od) := by
  obtain ⟨mA, O, _⟩ := ins_get I.hok e
  obtain ⟨od, J, _⟩ := O.look
  exact ⟨od, J⟩
theorem back_of {Q : VK} {u : Value} {s' : Shared} (h : EP X pins σ Q u s') : PySem.W.CmpBack (EP X pins σ Q) u s' := by
  obtain ⟨v, H', I, r, q⟩ := h
  cases v with
  | non => cases (show u = Value.none from r); exact ⟨.non, H', I, rfl, q⟩
  | bl b => cases (show u = Value.bool b from r); exact ⟨.bl b, H', I, rfl, q⟩
  | int i => obtain ⟨t, e⟩ := (show ∃ t, u = Value.int i t from r); subst e; exact ⟨.int i, H', I, ⟨t, rfl⟩, q⟩
  | str x => obtain ⟨t, e⟩ := (show ∃ t, u = Value.str x t from r); subst e; exact ⟨.str x, H', I, ⟨t, rfl⟩, q⟩
  | byt x => obtain ⟨t, e⟩ := (show ∃ t, u = Value.bytes x t from r); subst e; exact ⟨.byt x, H', I, ⟨t, rfl⟩, q⟩
  | flt x => obtain ⟨t, e⟩ := (show ∃ t, u = Value.float x t from r); subst e; exact ⟨.flt x, H', I, ⟨t, rfl⟩, q⟩
  | ref b => cases (show u = Value.ref b from r); exact ⟨.ref b, H', I, rfl, q⟩
  | ty n => cases (show u = Value.type n from r); exact ⟨.ty n, H', I, rfl, q⟩
end

/-- what the class at C must show for an operator of its own -/
structure OwnOp (K : PySem.W.Frag) (C f : Addr) (name : Str) : Prop where
  at_ : PySem.W.findIn K (.ref C) name = some (some (.ref f))
  fn : PySem.W.isFn K (.ref f) = true

section
variable {X : Cx} {CX : CXT} {k : Nat} {C f : Addr} {fd : FuncData} {ps : List Str} {sp : Sp} {E : XK}

/-- own op own -/
def rOwn2 (C : Addr) (sp : Sp) (E : XK) : R2 := fun x y H Q => ∃ a dx fs b dy gs, x = .ref a ∧ y = .ref b ∧ H a = some (.ins C dx fs) ∧ H b = some (.ins C dy gs) ∧ sp [x, y] H Q E
theorem op_own2 {op : Operator} (hc : PySem.W.selfFirst X.K C = true) (o : OwnOp X.K C f (PySem.dunder op.info.2)) (F : FnOk X.prog X.w X.K X.mg X.base CX k f fd ps sp) (hr : Room k X.A) (hb : Binds X.K fd ps []) (hx : Passes CX X E) :
    OpR X (binaryOp op) (rOwn2 C sp E) := by
  intro pins s σ H x y v u Q I rx ry h
  obtain ⟨a, dx, fs, b, dy, gs, rfl, rfl, ha, hb', h⟩ := h
  obtain rfl : v = Value.ref a := rx
  obtain rfl : u = Value.ref b := ry
  obtain ⟨od, J⟩ := inst_of I ha
  obtain ⟨od2, J2⟩ := inst_of I hb'
  obtain ⟨m, Fr⟩ := I.fr
  refine PySem.W.binop_K Fr I.mod.kin J J2.type hc o.at_ o.fn (wpAny_mono (run_fn (us := [.ref a, .ref b]) (vs := [.ref a, .ref b]) F hr hb .nil hx I (.cons rfl (.cons rfl .nil)) h) (fun _ _ q => back_of q) fun _ _ e => e)

/-- own op int -/
def rOwnI (C : Addr) (sp : Sp) (E : XK) : R2 := fun x y H Q => ∃ a dx fs i, x = .ref a ∧ y = .int i ∧ H a = some (.ins C dx fs) ∧ sp [x, y] H Q E
theorem op_ownI {op : Operator} {fo ro rc : Option Value} (hc : PySem.W.selfFirst X.K C = true) (o : OwnOp X.K C f (PySem.dunder op.info.2)) (F : FnOk X.prog X.w X.K X.mg X.base CX k f fd ps sp) (hr : Room k X.A) (hb : Binds X.K fd ps []) (hx : Passes CX X E)
    (hR : PySem.W.findIn X.K (.ref C) (dunderR op.info.2) = some rc) (hp : rc = none ∨ ∃ g : Addr, rc = some (.ref g)) (h1 : PySem.W.findIn X.K (.type "int") (PySem.dunder op.info.2) = some fo) (h2 : PySem.W.findIn X.K (.type "int") (dunderR op.info.2) = some ro)
    (hsub : PySem.W.subIn X.K (.type "int") (.ref C) = some false) : OpR X (binaryOp op) (rOwnI C sp E) := by
  intro pins s σ H x y v u Q I rx ry h
  obtain ⟨a, dx, fs, i, rfl, rfl, ha, h⟩ := h
  obtain rfl : v = Value.ref a := rx
  obtain ⟨t, rfl⟩ := ry
  obtain ⟨od, J⟩ := inst_of I ha
  obtain ⟨m, Fr⟩ := I.fr
  exact PySem.W.ksp_binT (T := "int") Fr I.mod.kin J rfl hc o.at_ o.fn hR hp h1 h2 hsub (wpAny_mono (run_fn (us := [.ref a, .int i t]) (vs := [.ref a, .int i]) F hr hb .nil hx I (.cons rfl (.cons ⟨t, rfl⟩ .nil)) h) (fun _ _ q => back_of q) fun _ _ e => e)

/-- -own -/
def rOwnU (C : Addr) (sp : Sp) (E : XK) : V → Hp → VK → Prop := fun x H Q => ∃ a dx fs, x = .ref a ∧ H a = some (.ins C dx fs) ∧ sp [x] H Q E
theorem un_own (o : OwnOp X.K C f "__neg__") (F : FnOk X.prog X.w X.K X.mg X.base CX k f fd ps sp) (hr : Room k X.A) (hb : Binds X.K fd ps []) (hx : Passes CX X E) : UnR X (unaryOp .USub) (rOwnU C sp E) := by
  intro pins s σ H x v Q I rx h
  obtain ⟨a, dx, fs, rfl, ha, h⟩ := h
  obtain rfl : v = Value.ref a := rx
  obtain ⟨od, J⟩ := inst_of I ha
  obtain ⟨m, Fr⟩ := I.fr
  exact PySem.W.ksp_neg Fr I.mod.kin J o.at_ o.fn (run_fn (us := [.ref a]) (vs := [.ref a]) F hr hb .nil hx I (.cons rfl .nil) h)
theorem UnR.or {f : Value → Sem Value} {r r' : V → Hp → VK → Prop} (h : UnR X f r) (h' : UnR X f r') : UnR X f (fun x H Q => r x H Q ∨ r' x H Q) := by
  intro pins s σ H x v Q I rx q
  rcases q with q | q
  · exact h pins s σ H x v Q I rx q
  · exact h' pins s σ H x v Q I rx q
end

/-! ### an int on the left of an own operator; own == and != -/
theorem int_add_plain (a : Int) (t : Tok) (l C dx : Addr) :
    Meets (Builtin.«int.__add__» ⟨[.int a t, .ref l], []⟩) (fun _ R s => s.heap.get? l = some (PySem.W.instObj C dx) ∧ R (.ok (.ret Value.notImplemented)) s) :=
  .of_wp fun prog w A R s h => by obtain ⟨hp, g, d, tk, os⟩ := s; obtain ⟨hl, h⟩ := h; wp_walk; exact ⟨_, rfl, h⟩
theorem int_sub_plain (a : Int) (t : Tok) (l C dx : Addr) :
    Meets (Builtin.«int.__sub__» ⟨[.int a t, .ref l], []⟩) (fun _ R s => s.heap.get? l = some (PySem.W.instObj C dx) ∧ R (.ok (.ret Value.notImplemented)) s) :=
  .of_wp fun prog w A R s h => by obtain ⟨hp, g, d, tk, os⟩ := s; obtain ⟨hl, h⟩ := h; wp_walk; exact ⟨_, rfl, h⟩
theorem int_mul_plain (a : Int) (t : Tok) (l C dx : Addr) :
    Meets (Builtin.«int.__mul__» ⟨[.int a t, .ref l], []⟩) (fun _ R s => s.heap.get? l = some (PySem.W.instObj C dx) ∧ R (.ok (.ret Value.notImplemented)) s) :=
  .of_wp fun prog w A R s h => by obtain ⟨hp, g, d, tk, os⟩ := s; obtain ⟨hl, h⟩ := h; wp_walk; exact ⟨_, rfl, h⟩
theorem int_eq_plain (a : Int) (t : Tok) (l C dx : Addr) :
    Meets (Builtin.«int.__eq__» ⟨[.int a t, .ref l], []⟩) (fun _ R s => s.heap.get? l = some (PySem.W.instObj C dx) ∧ R (.ok (.ret Value.notImplemented)) s) :=
  .of_wp fun prog w A R s h => by obtain ⟨hp, g, d, tk, os⟩ := s; obtain ⟨hl, h⟩ := h; wp_walk; exact ⟨_, rfl, h⟩

section
open PySem.W
variable {prog : Program} {w : World} {A : Around} {E : Value → Shared → Prop} {s : Shared} {K : Frag} {y C L f f0 dx : Addr} {h₀ : Heap} {m : Str → Option Value} {od : Option Obj}
theorem bin_refl {op : Operator} {i : Int} {t : Tok} {fo ro : Option Value} {Q : Value → Shared → Prop} (F : Fr h₀ L s.heap m) (X₀ : K.In h₀) (J : InstAt s.heap y (instObj C dx) C od) (hc : selfFirst K C = true)
    (hs : findIn K (.ref C) (PySem.dunder op.info.2) = some (some (.ref f0))) (hr : findIn K (.ref C) (dunderR op.info.2) = some (some (.ref f))) (hf : isFn K (.ref f) = true)
    (h1 : findIn K (.type "int") (PySem.dunder op.info.2) = some fo) (h2 : findIn K (.type "int") (dunderR op.info.2) = some ro) (hfill : ((fo.isSome && !isSeqSlot fo) || (ro.isSome && !isSeqSlot ro)) = true) (hsub : subIn K (.ref C) (.type "int") = some false)
    (hdec : ∀ Q' : Option Value → Shared → Prop, Q' none s → wpAny (model prog w) A (tryMethod (.int i t) (PySem.dunder op.info.2) (.ref y)) Q' E s)
    (h : wpAny (model prog w) A (call (.ref f) [.ref y, .int i t]) (PySem.W.CmpBack Q) E s) : wpAny (model prog w) A (binaryOp op (.int i t) (.ref y)) Q E s := by
  have X := X₀.keeps F.keep
  obtain ⟨cd, rest, hcd, hm⟩ := ksp_first hc
  rcases hi : op.info with ⟨sym, nm'⟩
  rw [hi] at hs hr h1 h2 hdec
  dsimp only at hs hr h1 h2 hdec
  have one := ksp_try X J hr hf h
  obtain ⟨hh, g, d, tt, os⟩ := s
  have L1 : Looks (model prog w) hh (typeOf (.int i t)) (.type "int") := Looks.of_pure rfl
  have L2 : Looks (model prog w) hh (typeOf (.ref y)) (.ref C) := J.type
  have L3 : Looks (model prog w) hh (fillsNumberSlot (.ref C) nm') true := fills_K X hcd hm hs
  have L4 : Looks (model prog w) hh (fillsNumberSlot (.type "int") nm') true := by
    have q := ksp_fillsT (M := model prog w) (nm := nm') X h1 h2
    rw [hfill] at q
    exact q
  have L5 : Looks (model prog w) hh (isSubtype (.ref C) (.type "int")) false := looks_subIn X hsub
  have L7 : Looks (model prog w) hh (numberSlotInPython (.type "int") nm') false := Looks.of_pure rfl
  have hne : (Value.type "int" == Value.ref C) = false := Bool.eq_false_iff.mpr fun q => by cases beq_iff_eq.mp q
  simp only [binaryOp, hi]
  refine wpAny_holding (wpAny_bind ?_)
  unfold binaryOp1
  refine wpAny_bind (L1.at (wpAny_bind (L2.at (wpAny_bind (L4.at ?_)))))
  simp only [hne, Bool.false_eq_true, if_false]
  ksp_lk
  refine hdec _ ?_
  ksp_lk
  refine wpAny_mono one (fun r s' hr' => ?_) fun _ _ e => e
  obtain ⟨v, rfl, hq⟩ := hr'
  ksp_lk
  exact hq
end

/-! ### own ==, != ; an int == own -/
section
open PySem.W
variable {prog : Program} {w : World} {A : Around} {E : Value → Shared → Prop} {s : Shared} {K : Frag} {x y C L f dx : Addr} {h₀ : Heap} {m : Str → Option Value} {od : Option Obj} {ox : Obj}
theorem check_own {M : Model} {id owner n : String} {rest : List Value} {Q : Unit → Shared → Prop} (hk : builtinKind id = some .slot) (hs : splitId id = some (owner, n)) (ha : argsOk id ⟨.ref x :: rest, []⟩)
    (X : K.In s.heap) (J : InstAt s.heap x ox C od) (hob : subIn K (.ref C) (.type owner) = some true) (hq : Q () s) : wpAny M A (checkBuiltinCall id ⟨.ref x :: rest, []⟩) Q E s := by
  simp only [checkBuiltinCall, hk, hs]
  refine wpAny_bind ?_
  unfold isInstance
  refine wpAny_bind (m := typeOf (.ref x)) (J.type.here ((looks_subIn X hob).here ?_))
  simp only [Bool.not_true, Bool.false_eq_true, if_false]
  cases hsig : Manifest.signature? id with
  | none => exact wpAny_pure hq
  | some sig =>
    simp only [argsOk, hsig] at ha
    have h2 : Bind.checkArgs id sig ⟨.ref x :: rest, []⟩ = pure () := ha
    show wpAny M A (Bind.checkArgs id sig ⟨.ref x :: rest, []⟩) Q E _
    rw [h2]; exact wpAny_pure hq
theorem ifBound_B {M : Model} {name : Str} {T id : String} {args : List Value} {Q : Option Value → Shared → Prop} (X : K.In s.heap) (I : InstAt s.heap x ox C od) (hs : findIn K (.ref C) name = some (some (.builtin id))) (S : Slot T name id)
    (h : wpAny M A (call (.builtin id) (.ref x :: args)) (fun v => Q (some v)) E s) : wpAny M A (callSpecialIfBound? (.ref x) name args) Q E s := by
  simp only [callSpecialIfBound?, bindSpecialIfBound?]
  refine wpAny_holding (wpAny_bind (wpAny_bind (wpAny_bind (I.type.here ((looks_findIn X hs).here ?_)))))
  simp only [S.bind]
  refine wpAny_bind (wpAny_askSetting (wpAny_ite ?_))
  have fin : wpAny M A (call (.builtin id) ([.ref x] ++ args) >>= fun v => pure (some v)) Q E s := wpAny_bind (wpAny_mono h (fun v s' h' => wpAny_pure h') fun _ _ h' => h')
  split
  · exact wpAny_bind (wpAny_pure (wpAny_pure fin))
  · exact wpAny_tryCatch (wpAny_bind (wpAny_pure (wpAny_pure fin)))
theorem objNe_own {b : Value} (X : K.In s.heap) (I : InstAt s.heap x ox C od) (hs : findIn K (.ref C) "__eq__" = some (some (.ref f))) (hf : isFn K (.ref f) = true) (hu : A.units < cLine) {Q : Fin → Shared → Prop}
    (hcall : wpAny (model prog w) A (call (.ref f) [.ref x, b]) (fun v s' => ∃ k, v = .bool k ∧ Q (.done (.ret (.bool (!k)))) s') E s) :
    wpAny (model prog w) A (Builtin.«object.__ne__» ⟨[.ref x, b], []⟩) Q E s := by
  unfold Builtin.«object.__ne__»
  repeat (first
    | with_reducible refine wpAny_cRoomFor hu ?_
    | (refine wpAny_bind (m := callSpecialIfBound? (.ref x) (Str.ofString "__eq__") [b])
        (ifBound_K X I hs hf (wpAny_mono hcall (fun r s' hr => by
          obtain ⟨b, rfl, hq⟩ := hr
          repeat (first | exact hq | exact wpAny_pure hq | exact wpAny_truthy_bool hq | (refine wpAny_bind (m := truthy (.bool _)) (wpAny_truthy_bool ?_)) | wp_step)) fun _ _ e => e)))
    | wp_step)
theorem cmp_ne_own {b tb : Value} {Q : Value → Shared → Prop} (hu : A.units + 1 < cLine) (X : K.In s.heap) (I : InstAt s.heap x ox C od) (hb : Looks (model prog w) s.heap (typeOf b) tb) (hn : notFirst K C tb = true)
    (hne : findIn K (.ref C) "__ne__" = some (some (.builtin "object.__ne__"))) (hob : subIn K (.ref C) (.type "object") = some true) (hs : findIn K (.ref C) "__eq__" = some (some (.ref f))) (hf : isFn K (.ref f) = true)
    (h : wpAny (model prog w) A.in1 (call (.ref f) [.ref x, b]) (fun v s' => ∃ k, v = .bool k ∧ Q (.bool (!k)) s') E s) : wpAny (model prog w) A (richCompare .NotEq (.ref x) b) Q E s := by
  have one : wpAny (model prog w) A (tryCompare (.ref x) "__ne__" b) (fun r s' => ∃ v, r = some v ∧ Q v s') E s := by
    unfold tryCompare
    refine wpAny_bind (ifBound_B X I hne F.cmp_object.ne (wpAny_call (codeAny_call_builtin F.cmp_object.ne.plain F.cmpEntry_ne (check_own F.cmpKind_ne F.cmpSplit_ne (F.cmpArgs_ne _ _) X I hob ?_))))
    refine objNe_own (A := A.in1) X I hs hf hu (wpAny_mono h (fun v s' hv => ?_) fun _ _ e => e)
    obtain ⟨k, rfl, hq⟩ := hv
    exact ⟨k, rfl, wpAny_pure ⟨_, rfl, hq⟩⟩
  unfold richCompare
  simp only [oneThing_ref]
  refine wpAny_holding (wpAny_bind (wpAny_cRoomFor (Nat.lt_of_succ_lt hu) ?_))
  refine wpAny_bind (I.type.here (wpAny_bind (hb.here ?_)))
  split
  · rename_i q
    have e : subIn K tb (.ref C) = some false := by
      rcases Bool.or_eq_true_iff.mp hn with e | e
      · rw [beq_iff_eq.mp e] at q; simp at q
      · exact beq_iff_eq.mp e
    refine wpAny_bind ((looks_subIn X e).here ?_)
    simp only [Bool.false_eq_true, if_false]
    refine wpAny_bind (wpAny_mono one (fun r s' z => ?_) fun _ _ e => e)
    obtain ⟨v, rfl, hq⟩ := z
    exact wpAny_pure hq
  · refine wpAny_bind (wpAny_pure ?_)
    simp only [Bool.false_eq_true, if_false]
    refine wpAny_bind (wpAny_mono one (fun r s' z => ?_) fun _ _ e => e)
    obtain ⟨v, rfl, hq⟩ := z
    exact wpAny_pure hq
/-- an int == own -/
theorem cmp_eq_refl {i : Int} {t : Tok} {Q : Value → Shared → Prop} (hu : A.units < cLine) (X : K.In s.heap) (I : InstAt s.heap y (instObj C dx) C od) (hsub : subIn K (.ref C) (.type "int") = some false)
    (hs : findIn K (.ref C) "__eq__" = some (some (.ref f))) (hf : isFn K (.ref f) = true)
    (h : wpAny (model prog w) A (call (.ref f) [.ref y, .int i t]) (PySem.W.CmpBack Q) E s) : wpAny (model prog w) A (richCompare .Eq (.int i t) (.ref y)) Q E s := by
  have one : wpAny (model prog w) A (tryCompare (.ref y) "__eq__" (.int i t)) (fun r s' => ∃ v, r = some v ∧ Q v s') E s := by
    unfold tryCompare
    refine wpAny_bind (ifBound_K X I hs hf (wpAny_mono h (fun v s' hv => ?_) fun _ _ e => e))
    cases v <;> first | exact hv.elim | exact wpAny_pure ⟨_, rfl, hv⟩
  unfold richCompare
  rw [show oneThing? .Eq (.int i t) (.ref y) = none from rfl]
  refine wpAny_holding (wpAny_bind (wpAny_cRoomFor hu ?_))
  dsimp only
  refine wpAny_bind ((Looks.of_pure (M := model prog w) (h := s.heap) (t := typeOf (.int i t)) (r := .type "int") rfl).here (wpAny_bind (I.type.here ?_)))
  rw [if_pos (show ((Value.type "int" != Value.ref C) = true) from rfl)]
  refine wpAny_bind ((looks_subIn X hsub).here ?_)
  simp only [Bool.false_eq_true, if_false]
  refine wpAny_bind (wpAny_tryCompare_declines (typeIs_int s i t) F.slot_int_eq (call_meets F.slot_int_eq (typeIs_int s i t) F.entry_int_eq (F.args_int_eq_2 _ _) (int_eq_plain i t y C dx) ⟨I.at_, rfl, ?_⟩))
  simp only [Bool.not_false, if_true]
  refine wpAny_bind (wpAny_mono one (fun r s' z => ?_) fun _ _ e => e)
  obtain ⟨v, rfl, hq⟩ := z
  exact wpAny_pure hq
end

/-! ### the same over the layer -/
section
variable {X : Cx} {CX : CXT} {k : Nat} {C f f0 : Addr} {fd : FuncData} {ps : List Str} {sp : Sp} {E : XK}
/-- what a class must show for int + own -/
structure Refl (K : PySem.W.Frag) (C f0 f : Addr) (nm : String) (fo ro : Option Value) : Prop where
  first : PySem.W.selfFirst K C = true
  fwd : PySem.W.findIn K (.ref C) (PySem.dunder nm) = some (some (.ref f0))
  rev : PySem.W.findIn K (.ref C) (dunderR nm) = some (some (.ref f))
  fn : PySem.W.isFn K (.ref f) = true
  i1 : PySem.W.findIn K (.type "int") (PySem.dunder nm) = some fo
  i2 : PySem.W.findIn K (.type "int") (dunderR nm) = some ro
  fill : ((fo.isSome && !isSeqSlot fo) || (ro.isSome && !isSeqSlot ro)) = true
  sub : PySem.W.subIn K (.ref C) (.type "int") = some false
def rRefl (C : Addr) (sp : Sp) (E : XK) : R2 := fun x y H Q => ∃ i b dy gs, x = .int i ∧ y = .ref b ∧ H b = some (.ins C dy gs) ∧ sp [y, x] H Q E
theorem op_reflG {op : Operator} {id : String} {B : Builtin} {fo ro : Option Value} (R : Refl X.K C f0 f op.info.2 fo ro) (S : Slot "int" (PySem.dunder op.info.2) id) (en : entryFor table id = some B) (ag : ∀ a b : Value, argsOk id ⟨[a, b], []⟩)
    (mt : ∀ (a : Int) (t : Tok) (l C dx : Addr), Meets (B ⟨[.int a t, .ref l], []⟩) (fun _ R s => s.heap.get? l = some (PySem.W.instObj C dx) ∧ R (.ok (.ret Value.notImplemented)) s))
    (F : FnOk X.prog X.w X.K X.mg X.base CX k f fd ps sp) (hr : Room k X.A) (hb : Binds X.K fd ps []) (hx : Passes CX X E) : OpR X (binaryOp op) (rRefl C sp E) := by
  intro pins s σ H x y v u Q I rx ry h
  obtain ⟨i, b, dy, gs, rfl, rfl, hb', h⟩ := h
  obtain ⟨t, rfl⟩ := rx
  obtain rfl : u = Value.ref b := ry
  obtain ⟨od, J⟩ := inst_of I hb'
  obtain ⟨m, Fr⟩ := I.fr
  refine bin_refl (f0 := f0) Fr I.mod.kin J R.first R.fwd R.rev R.fn R.i1 R.i2 R.fill R.sub (fun Q' q => ?_) (wpAny_mono (run_fn (us := [.ref b, .int i t]) (vs := [.ref b, .int i]) F hr hb .nil hx I (.cons rfl (.cons ⟨t, rfl⟩ .nil)) h) (fun _ _ q => back_of q) fun _ _ e => e)
  exact wpAny_tryMethod_declines (typeIs_int s i t) S (call_meets S (typeIs_int s i t) en (ag _ _) (mt i t b C dy) ⟨J.at_, rfl, q⟩)
theorem op_reflAdd {fo ro : Option Value} (R : Refl X.K C f0 f "add" fo ro) (F : FnOk X.prog X.w X.K X.mg X.base CX k f fd ps sp) (hr : Room k X.A) (hb : Binds X.K fd ps []) (hx : Passes CX X E) : OpR X (binaryOp .Add) (rRefl C sp E) :=
  op_reflG (op := .Add) R PySem.F.slot_int_add PySem.F.entry_int_add PySem.F.args_int_add_2 int_add_plain F hr hb hx
theorem op_reflSub {fo ro : Option Value} (R : Refl X.K C f0 f "sub" fo ro) (F : FnOk X.prog X.w X.K X.mg X.base CX k f fd ps sp) (hr : Room k X.A) (hb : Binds X.K fd ps []) (hx : Passes CX X E) : OpR X (binaryOp .Sub) (rRefl C sp E) :=
  op_reflG (op := .Sub) R PySem.F.slot_int_sub PySem.F.entry_int_sub PySem.F.args_int_sub_2 int_sub_plain F hr hb hx
theorem op_reflMul {fo ro : Option Value} (R : Refl X.K C f0 f "mul" fo ro) (F : FnOk X.prog X.w X.K X.mg X.base CX k f fd ps sp) (hr : Room k X.A) (hb : Binds X.K fd ps []) (hx : Passes CX X E) : OpR X (binaryOp .Mult) (rRefl C sp E) :=
  op_reflG (op := .Mult) R PySem.F.slot_int_mul PySem.F.entry_int_mul PySem.F.args_int_mul_2 int_mul_plain F hr hb hx

/-- a def called one C unit deeper (out of a built-in) -/
theorem run_fn1 {pins : List (Addr × Obj)} {σ : L2.St} {H : Hp} {s : Shared} {Q : VK} {us : List Value} {vs : List V} {dvs : List V} {ds : List Value} (F : FnOk X.prog X.w X.K X.mg X.base CX k f fd ps sp) (hr : Room (k + 1) X.A) (hb : Binds X.K fd ps ds) (hd : Vals dvs ds) (hx : Passes CX X E)
    (I : Inv X pins σ H s) (r : Vals vs us) (h : sp (vs ++ dvs) H Q E) : wpAny (model X.prog X.w) X.A.in1 (call (.ref f) us) (EP X pins σ Q) X.xe s := by
  have r2 : Vals (vs ++ dvs) (us ++ ds) := r.append hd
  have hl : (us ++ ds).length = ps.length := by rw [← r2.length]; exact F.len _ _ _ _ h
  refine wpAny_call (codeAny_mono (F.run X.A.in1 X.stack s H ⟨us, []⟩ (us ++ ds) (vs ++ dvs) Q E hr.in1 I.env0.in1 (hb s us I.kIn hl) r2 h) fun r s' hq => ?_)
  cases r with
  | error e => exact hx pins σ H s e s' I hq
  | ok fl =>
    cases fl with
    | ret u => exact I.after hq
    | next => exact False.elim hq
    | brk => exact False.elim hq
    | cont => exact False.elim hq

/-- own == y, y of any known type -/
def rEqOwn (K : PySem.W.Frag) (C : Addr) (sp : Sp) (E : XK) : R2 := fun x y H Q => ∃ a dx fs t, x = .ref a ∧ H a = some (.ins C dx fs) ∧ TyX K H y t ∧ PySem.W.notFirst K C t = true ∧ sp [x, y] H Q E
theorem op_eqOwn (o : OwnOp X.K C f "__eq__") (F : FnOk X.prog X.w X.K X.mg X.base CX k f fd ps sp) (hr : Room k X.A) (hb : Binds X.K fd ps []) (hx : Passes CX X E) : OpR X (compareOp .Eq) (rEqOwn X.K C sp E) := by
  intro pins s σ H x y v u Q I rx ry h
  obtain ⟨a, dx, fs, t, rfl, ha, ty, nf, h⟩ := h
  obtain rfl : v = Value.ref a := rx
  obtain ⟨od, J⟩ := inst_of I ha
  obtain ⟨m, Fr⟩ := I.fr
  obtain ⟨P, Z, p, _⟩ := kit_of I ry ty
  unfold compareOp
  exact PySem.W.cmp_K hr.units0 Fr I.mod.kin J (Z.ty _ _ I.kIn p) nf o.at_ o.fn (wpAny_mono (run_fn (us := [.ref a, u]) (vs := [.ref a, y]) F hr hb .nil hx I (.cons rfl (.cons ry .nil)) h) (fun _ _ q => back_of q) fun _ _ e => e)
/-- own != y by the own ==, which answers a truth -/
def rNeOwn (K : PySem.W.Frag) (C : Addr) (sp : Sp) (E : XK) : R2 := fun x y H Q => ∃ a dx fs t, x = .ref a ∧ H a = some (.ins C dx fs) ∧ TyX K H y t ∧ PySem.W.notFirst K C t = true ∧ sp [x, y] H (fun v H' => ∃ b, v = .bl b ∧ Q (.bl (!b)) H') E
theorem op_neOwn (o : OwnOp X.K C f "__eq__") (hne : PySem.W.findIn X.K (.ref C) "__ne__" = some (some (.builtin "object.__ne__"))) (hob : PySem.W.subIn X.K (.ref C) (.type "object") = some true)
    (F : FnOk X.prog X.w X.K X.mg X.base CX k f fd ps sp) (hr : Room (k + 1) X.A) (hb : Binds X.K fd ps []) (hx : Passes CX X E) : OpR X (compareOp .NotEq) (rNeOwn X.K C sp E) := by
  intro pins s σ H x y v u Q I rx ry h
  obtain ⟨a, dx, fs, t, rfl, ha, ty, nf, h⟩ := h
  obtain rfl : v = Value.ref a := rx
  obtain ⟨od, J⟩ := inst_of I ha
  obtain ⟨P, Z, p, _⟩ := kit_of I ry ty
  unfold compareOp
  refine cmp_ne_own (hu_of hr) I.kIn J (Z.ty _ _ I.kIn p) nf hne hob o.at_ o.fn (wpAny_mono (run_fn1 (us := [.ref a, u]) (vs := [.ref a, y]) F hr hb .nil hx I (.cons rfl (.cons ry .nil)) h) (fun z s' q => ?_) fun _ _ e => e)
  obtain ⟨v, H', I', r, b, rfl, q⟩ := q
  obtain rfl : z = Value.bool b := r
  exact ⟨b, rfl, .bl (!b), H', I', rfl, q⟩
/-- an int == own -/
theorem op_eqRefl (o : OwnOp X.K C f "__eq__") (hsub : PySem.W.subIn X.K (.ref C) (.type "int") = some false) (F : FnOk X.prog X.w X.K X.mg X.base CX k f fd ps sp) (hr : Room k X.A) (hb : Binds X.K fd ps []) (hx : Passes CX X E) : OpR X (compareOp .Eq) (rRefl C sp E) := by
  intro pins s σ H x y v u Q I rx ry h
  obtain ⟨i, b, dy, gs, rfl, rfl, hb', h⟩ := h
  obtain ⟨t, rfl⟩ := rx
  obtain rfl : u = Value.ref b := ry
  obtain ⟨od, J⟩ := inst_of I hb'
  unfold compareOp
  exact cmp_eq_refl hr.units0 I.kIn J hsub o.at_ o.fn (wpAny_mono (run_fn (us := [.ref b, .int i t]) (vs := [.ref b, .int i]) F hr hb .nil hx I (.cons rfl (.cons ⟨t, rfl⟩ .nil)) h) (fun _ _ q => back_of q) fun _ _ e => e)

/-- * of two ints whose product the model takes -/
theorem op_mulM : OpR X (binaryOp .Mult) (rI IntMulOk fun i j => .int (i * j)) := opI fun _ _ _ _ _ _ _ hc q => mul_int q hc
/-- // by any divisor but 0, below 2 ^ 9000 in size -/
def CDivX (_ j : Int) : Prop := j ≠ 0 ∧ j.natAbs.log2 < 9000
theorem op_fdivX : OpR X (binaryOp .FloorDiv) (rI CDivX fun i j => .int (i.fdiv j)) := opI fun i j _ _ _ _ _ hc q => floordiv_int hc.1 q (.inl (PyProof.noPylong_of_log2 hc.2))
end

/-! ### o.m(.., k = v, ..) -/
def tMethN (C : Addr) (m : Str) (n mk : Nat) (sp : Sp) (gV : List V → List V → List V) (E : XK) (ta : TE) (t tk : TA) : TE := fun σ H Q => ta σ H fun x H1 => ∃ a dx fs, x = .ref a ∧ H1 a = some (.ins C dx fs) ∧ fs.lookup m = none ∧
  t σ H1 fun vs H2 => tk σ H2 fun zs H3 => vs.length = n ∧ zs.length = mk ∧ sp (gV (x :: vs) zs) H3 Q E
section
variable {X : Cx} {CX : CXT} {k n : Nat} {f C : Addr} {fd : FuncData} {ps ks : List Str} {sp : Sp} {E : XK} {m : Str} {p pos apos : Pos} {e o : Expr} {es : List Expr} {kws : List Keyword} {ta : TE} {t tk : TA} {g : List Value → List Value → List Value} {gV : List V → List V → List V}
/-- o.m(k = v, ..) -/
theorem pe_methK0 {pl : Sem Bool} (he : PE X o ta) (c : Cls X.K C) (hm : Meth X.K C m f) (F : FnOk X.prog X.w X.K X.mg X.base CX k f fd ps sp) (hr : Room k X.A) (hb : KBn X.K fd ps 1 ks g gV) (hx : Passes CX X E) (hkw : PK X kws tk)
    (hall : (backToKw pos (keywordEach kws X.env)).all (·.1.isSome) = true := by rfl) (hks : (backToKw pos (keywordEach kws X.env)).filterMap (·.1) = ks := by rfl)
    (hpl : ((backTo pos (starEach [] X.env)).any (·.1) || (backToKw pos (keywordEach kws X.env)).any (·.1.isNone)) = false := by rfl)
    (ht : eval (.Call (.Attribute o m apos) [] kws pos) X.env = (do
      let ov ← eval o X.env
      standAt apos.atName
      let (f, first) ← holding [ov] (getMethod ov m pl)
      callWith pos f first (backTo pos (starEach [] X.env)) (backToKw pos (keywordEach kws X.env))) := by rfl) :
    PE X (.Call (.Attribute o m apos) [] kws pos) (tMethN C m 0 ks.length sp gV E ta tNil tk) := by
  refine ⟨fun pins s σ H Q I h => ?_⟩
  refine PySem.W.methodCall_KW (pl := pl) (thn (he.run pins s σ H _ I h) fun u s1 ⟨x, H1, I1, rx, a, dx, fs, ex, ea, l, q⟩ => ?_) ht
  subst ex
  obtain rfl : u = Value.ref a := rx
  refine getmeth_ok I1 ea c hm l ?_
  refine PySem.W.callWith_KW0 (first := [.ref a]) (h₀ := X.base) I.ok.mod.kin hm.kp hall ?_ hpl
  refine thn (hkw.run pos pins s1 σ H1 _ I1 q) fun ws s2 ⟨zs, H2, I2, rz, l1, l2, q2⟩ => ⟨I2.kIn, ?_⟩
  rw [hks]
  exact run_fnN (us := [.ref a]) (vs := [.ref a]) F hr hb hx I2 (.cons rfl .nil) rz rfl l2 q2
/-- o.m(e, .., k = v, ..) -/
theorem pe_methK {pl : Sem Bool} (he : PE X o ta) (c : Cls X.K C) (hm : Meth X.K C m f) (F : FnOk X.prog X.w X.K X.mg X.base CX k f fd ps sp) (hr : Room k X.A) (hb : KBn X.K fd ps (n + 1) ks g gV) (hx : Passes CX X E) (ha : PA X (e :: es) t) (hkw : PK X kws tk)
    (hall : (backToKw pos (keywordEach kws X.env)).all (·.1.isSome) = true := by rfl) (hks : (backToKw pos (keywordEach kws X.env)).filterMap (·.1) = ks := by rfl)
    (hst : starEach (e :: es) X.env = (false, eval e X.env) :: starEach es X.env := by rfl)
    (hpl : ((backTo pos (starEach (e :: es) X.env)).any (·.1) || (backToKw pos (keywordEach kws X.env)).any (·.1.isNone)) = false := by rfl)
    (ht : eval (.Call (.Attribute o m apos) (e :: es) kws pos) X.env = (do
      let ov ← eval o X.env
      standAt apos.atName
      let (f, first) ← holding [ov] (getMethod ov m pl)
      callWith pos f first (backTo pos (starEach (e :: es) X.env)) (backToKw pos (keywordEach kws X.env))) := by rfl) :
    PE X (.Call (.Attribute o m apos) (e :: es) kws pos) (tMethN C m n ks.length sp gV E ta t tk) := by
  refine ⟨fun pins s σ H Q I h => ?_⟩
  refine PySem.W.methodCall_KW (pl := pl) (thn (he.run pins s σ H _ I h) fun u s1 ⟨x, H1, I1, rx, a, dx, fs, ex, ea, l, q⟩ => ?_) ht
  subst ex
  obtain rfl : u = Value.ref a := rx
  refine getmeth_ok I1 ea c hm l ?_
  refine PySem.W.callWith_KW (first := [.ref a]) (h₀ := X.base) I.ok.mod.kin hm.kp hall (thn (ha.run pos pins s1 σ H1 _ I1 q) fun us s2 ⟨vs, H2, I2, r, q2⟩ => ?_) hpl hst
  refine thn (hkw.run pos pins s2 σ H2 _ I2 q2) fun ws s3 ⟨zs, H3, I3, rz, l1, l2, q3⟩ => ⟨I3.kIn, ?_⟩
  rw [hks]
  exact run_fnN (us := .ref a :: us) (vs := .ref a :: vs) F hr hb hx I3 (.cons rfl r) rz (congrArg Nat.succ l1) l2 q3
end
end SL

set_option Elab.async false
set_option linter.all false
set_option maxRecDepth 100000
set_option maxHeartbeats 4000000
namespace SL
open PySem L2 PySem.Spec PyProof.Rows

/-! ### steps of a reading: each lemma is a rule from the goal's head -/
section go
variable {K : PySem.W.Frag} {D : Ends} {σ : L2.St} {H : Hp} {Q : VK} {te ta tb tv : TE} {t t1 t2 : TS} {tt uu : TT} {tA : TA} {tr : TA} {v x y : V} {i j : Nat} {r : R2} {g : TG} {E : XK}
theorem go_seq (h : t1 { D with nx := t2 D } σ H) : tSeq t1 t2 D σ H := h
theorem go_next (h : D.nx σ H) : tNext D σ H := h
theorem go_asg (h : te σ H fun x H1 => g x σ H1 D.nx) : tAsg te g D σ H := h
theorem go_gname {Q : L2.St → Hp → Prop} (h : Q (σ.set i (some v)) H) : gName i v σ H Q := h
theorem go_ret (h : te σ H D.rt) : tRet te D σ H := h
theorem go_retN (h : D.rt .non H) : tRetN D σ H := h
theorem go_drop (h : te σ H fun _ H1 => D.nx σ H1) : tDrop te D σ H := h
theorem go_ifs {c : TT} (h : c σ H fun b H1 => if b = true then t1 D σ H1 else t2 D σ H1) : tIfS c t1 t2 D σ H := h
theorem go_var (e : σ[i]? = some (some v)) (h : Q v H) : tVar i σ H Q := ⟨v, e, h⟩
theorem go_c (h : Q v H) : tC v σ H Q := h
theorem go_op (h : ta σ H fun x H1 => tb σ H1 fun y H2 => r x y H2 Q) : tOp r ta tb σ H Q := h
theorem go_un {r : V → Hp → VK → Prop} (h : ta σ H fun x H1 => r x H1 Q) : tUn r ta σ H Q := h
theorem go_I0 {g : Int → Int → V} {i j : Int} (h : Q (g i j) H) : rI0 g (.int i) (.int j) H Q := ⟨i, j, rfl, rfl, h⟩
theorem go_I {C : Int → Int → Prop} {g : Int → Int → V} {i j : Int} (c : C i j) (h : Q (g i j) H) : rI C g (.int i) (.int j) H Q := ⟨i, j, rfl, rfl, c, h⟩
theorem go_U {g : Int → V} {i : Int} (h : Q (g i) H) : rU g (.int i) H Q := ⟨i, rfl, h⟩
theorem go_test {Q : Bool → Hp → Prop} (h : te σ H fun x H' => ∃ k, x = .bl k ∧ Q k H') : tTest te σ H Q := h
theorem go_tb {Q : Bool → Hp → Prop} (h : te σ H fun x H' => ∃ k, x = .bl k ∧ Q k H') : tB te σ H Q := h
theorem go_bl {b : Bool} {R : Bool → Prop} (h : R b) : ∃ k, V.bl b = .bl k ∧ R k := ⟨b, rfl, h⟩
theorem go_eqI {i j : Int} (h : Q (.bl (decide (i = j))) H) : rEq (.int i) (.int j) H Q := by
  refine ⟨rfl, ?_⟩
  rw [show decide (V.int i = V.int j) = decide (i = j) by rw [dec_int]; by_cases e : i = j <;> simp [e]]
  exact h
theorem go_neI {i j : Int} (h : Q (.bl (!decide (i = j))) H) : rNe (.int i) (.int j) H Q := by
  refine ⟨rfl, ?_⟩
  rw [show decide (V.int i = V.int j) = decide (i = j) by rw [dec_int]; by_cases e : i = j <;> simp [e]]
  exact h
theorem go_eqB {i j : Bool} (h : Q (.bl (decide (i = j))) H) : rEq (.bl i) (.bl j) H Q := by
  refine ⟨rfl, ?_⟩
  rw [show decide (V.bl i = V.bl j) = decide (i = j) by rw [dec_bl]; cases i <;> cases j <;> rfl]
  exact h
theorem go_neB {i j : Bool} (h : Q (.bl (!decide (i = j))) H) : rNe (.bl i) (.bl j) H Q := by
  refine ⟨rfl, ?_⟩
  rw [show decide (V.bl i = V.bl j) = decide (i = j) by rw [dec_bl]; cases i <;> cases j <;> rfl]
  exact h
theorem go_eqS {i j : Str} (h : Q (.bl (decide (i = j))) H) : rEq (.str i) (.str j) H Q := by
  refine ⟨rfl, ?_⟩
  rw [show decide (V.str i = V.str j) = decide (i = j) by by_cases e : i = j <;> simp [e]]
  exact h
theorem go_neS {i j : Str} (h : Q (.bl (!decide (i = j))) H) : rNe (.str i) (.str j) H Q := by
  refine ⟨rfl, ?_⟩
  rw [show decide (V.str i = V.str j) = decide (i = j) by by_cases e : i = j <;> simp [e]]
  exact h
theorem go_and {Q : Bool → Hp → Prop} (h : tt σ H fun c H1 => if c = true then uu σ H1 Q else Q false H1) : tAnd tt uu σ H Q := h
theorem go_or {Q : Bool → Hp → Prop} (h : tt σ H fun c H1 => if c = true then Q true H1 else uu σ H1 Q) : tOr tt uu σ H Q := h
theorem go_not {Q : Bool → Hp → Prop} (h : tt σ H fun c H1 => Q (!c) H1) : tNot tt σ H Q := h
theorem go_andV (h : ta σ H fun x H1 => ∃ c, x = .bl c ∧ if c = true then tb σ H1 Q else Q (.bl false) H1) : tAndV ta tb σ H Q := h
theorem go_orV (h : ta σ H fun x H1 => ∃ c, x = .bl c ∧ if c = true then Q (.bl true) H1 else tb σ H1 Q) : tOrV ta tb σ H Q := h
theorem go_notV (h : ta σ H fun x H1 => ∃ c, x = .bl c ∧ Q (.bl (!c)) H1) : tNotV ta σ H Q := h
theorem go_if (h : tt σ H fun c H1 => if c = true then ta σ H1 Q else tb σ H1 Q) : tIf tt ta tb σ H Q := h
theorem go_T {A B : Prop} (h : A) : if true = true then A else B := iteT h
theorem go_F {A B : Prop} (h : B) : if false = true then A else B := iteF h
theorem go_nT {A B : Prop} (h : B) : if (!true) = true then A else B := iteF h
theorem go_nF {A B : Prop} (h : A) : if (!false) = true then A else B := iteT h
theorem go_d {p A B : Prop} [Decidable p] (h1 : p → A) (h2 : ¬ p → B) : if decide p = true then A else B := by
  by_cases h : p
  · rw [if_pos (decide_eq_true h)]; exact h1 h
  · rw [if_neg (by simp [h])]; exact h2 h
theorem go_dn {p A B : Prop} [Decidable p] (h1 : ¬ p → A) (h2 : p → B) : if (!decide p) = true then A else B := by
  by_cases h : p
  · rw [if_neg (by simp [h])]; exact h2 h
  · rw [if_pos (by simp [h])]; exact h1 h
theorem go_dT {p A B : Prop} [Decidable p] (hp : p) (h : A) : if decide p = true then A else B := by rw [if_pos (decide_eq_true hp)]; exact h
theorem go_dF {p A B : Prop} [Decidable p] (hp : ¬ p) (h : B) : if decide p = true then A else B := by rw [if_neg (by simp [hp])]; exact h
theorem go_dnT {p A B : Prop} [Decidable p] (hp : p) (h : B) : if (!decide p) = true then A else B := by rw [if_neg (by simp [hp])]; exact h
theorem go_dnF {p A B : Prop} [Decidable p] (hp : ¬ p) (h : A) : if (!decide p) = true then A else B := by rw [if_pos (by simp [hp])]; exact h
theorem go_b {b : Bool} {A B : Prop} (h1 : b = true → A) (h2 : b = false → B) : if b = true then A else B := by
  cases b with
  | true => exact iteT (h1 rfl)
  | false => exact iteF (h2 rfl)
theorem go_join {P : V → Prop} {b : Bool} (h1 : b = true → ∀ R : VK, (∀ v, P v → R v H) → ta σ H R) (h2 : b = false → ∀ R : VK, (∀ v, P v → R v H) → tb σ H R) (k : ∀ v, P v → Q v H) : if b = true then ta σ H Q else tb σ H Q := by
  cases b with
  | true => exact iteT (h1 rfl Q k)
  | false => exact iteF (h2 rfl Q k)
theorem go_nn {b : Bool} {A B : Prop} (h : if b = true then A else B) : if (!(!b)) = true then A else B := by rw [Bool.not_not]; exact h
theorem go_nil {Q : List V → Hp → Prop} (h : Q [] H) : tNil σ H Q := h
theorem go_cons {Q : List V → Hp → Prop} (h : te σ H fun x H1 => tr σ H1 fun xs H2 => Q (x :: xs) H2) : tCons te tr σ H Q := h
theorem go_call {sp : Sp} {dvs : List V} (h : tA σ H fun vs H1 => sp (vs ++ dvs) H1 Q E) : tCall sp dvs E tA σ H Q := h
theorem go_cb {r : List V → Hp → VK → Prop} (h : tA σ H fun vs H1 => r vs H1 Q) : tCB r tA σ H Q := h
theorem go_par {i j : Nat} (h : tA σ H fun vs H1 => ∃ v w, vs = [v, w] ∧ D.nx ((σ.set i (some v)).set j (some w)) H1) : tPar i j tA D σ H := h
theorem go_pair {a b : V} {P : V → V → Prop} (h : P a b) : ∃ v w, [a, b] = [v, w] ∧ P v w := ⟨a, b, rfl, h⟩
end go

/-! ### heaps that grow -/
theorem Same.at {H H' : Hp} {a : Addr} {o : HO} (e : L2.Same H H') (h : H a = some o) : H' a = some o := e a o h
theorem Same.new {H : Hp} {p : Addr} {o : HO} (h : H p = none) : L2.Same H (upd H p o) := fun a u e => by rw [upd_ne (ne_of_none e h)]; exact e
theorem Same.new' {H H' : Hp} {p : Addr} {o : HO} (h : H p = none) (q : upd H p o = H') : L2.Same H H' := q ▸ Same.new h
/-- an object that H does not know may change -/
theorem Same.mut {H H' : Hp} {p : Addr} {o : HO} (e : L2.Same H H') (h : H p = none) : L2.Same H (upd H' p o) := fun a u ha => by
  rw [upd_ne (ne_of_none ha h)]
  exact e a u ha
theorem at_new {H H' : Hp} {p : Addr} {o : HO} (q : upd H p o = H') : H' p = some o := q ▸ upd_same
theorem szL {n : Nat} (h : n ≤ 1000) : n ≤ sizeLine := Nat.le_of_lt (small1000 h)
/-- a new object at a free place -/
theorem new_ok {H : Hp} {o : HO} {R : Addr → Hp → Prop} (h : ∀ p H', H p = none → L2.Same H H' → H' p = some o → R p H') : ∀ p, H p = none → R p (upd H p o) := fun p hp => h p _ hp (Same.new hp) upd_same
section go2
variable {K : PySem.W.Frag} {D : Ends} {σ : L2.St} {H : Hp} {Q : VK} {te ta tb tv : TE} {tA : TA} {v x y : V} {i j : Nat} {E : XK}
theorem go_tup (h : tA σ H fun xs H1 => xs.length ≤ sizeLine ∧ ∀ p, H1 p = none → Q (.ref p) (upd H1 p (.tup xs))) : tTup tA σ H Q := h
theorem go_lst (h : tA σ H fun xs H1 => xs.length ≤ sizeLine ∧ ∀ p, H1 p = none → Q (.ref p) (upd H1 p (.lst xs))) : tLst tA σ H Q := h
theorem go_newT {xs : List V} (hl : xs.length ≤ 1000) (h : ∀ p H', H p = none → L2.Same H H' → H' p = some (.tup xs) → Q (.ref p) H') : xs.length ≤ sizeLine ∧ ∀ p, H p = none → Q (.ref p) (upd H p (.tup xs)) :=
  ⟨Nat.le_of_lt (small1000 hl), new_ok (R := fun p H' => Q (.ref p) H') h⟩
theorem go_newL {xs : List V} (hl : xs.length ≤ 1000) (h : ∀ p H', H p = none → L2.Same H H' → H' p = some (.lst xs) → Q (.ref p) H') : xs.length ≤ sizeLine ∧ ∀ p, H p = none → Q (.ref p) (upd H p (.lst xs)) :=
  ⟨Nat.le_of_lt (small1000 hl), new_ok (R := fun p H' => Q (.ref p) H') h⟩
theorem go_for {wi : TI} {g : TG} {tb : TS} (h : wi σ H fun J H1 => ∃ W : Nat → Nat → L2.St → Hp → Prop, (∃ m, W 0 m σ H1) ∧ ∀ i m σ H, W i m σ H →
  (J.stop i H ∧ D.nx σ H) ∨ (J.go i H ∧ ∃ N : L2.St → Hp → Prop, (∀ σ' H', N σ' H' → ∃ m', m' < m ∧ W (i + 1) m' σ' H') ∧ ∀ x H', J.yld i H x H' → g x σ H' fun σ2 H2 => tb { D with nx := N, ct := N, bk := D.nx } σ2 H2)) : tFor wi g tb D σ H := h
theorem go_iList {tl : TE} {R : It → Hp → Prop} (h : tl σ H fun x H1 => ∃ a, x = .ref a ∧ (∃ xs, SqL K H1 a xs) ∧ R (Itl K a) H1) : iList K tl σ H R := h
theorem go_iTup {tl : TE} {R : It → Hp → Prop} (h : tl σ H fun x H1 => ∃ a, x = .ref a ∧ (∃ xs, SqT K H1 a xs) ∧ R (Itt K a) H1) : iTup K tl σ H R := h
theorem go_iRng1 {R : It → Hp → Prop} (h : tA σ H fun vs H1 => ∃ j : Int, vs = [.int j] ∧ -(2 ^ 62) ≤ j ∧ j < 2 ^ 62 ∧ R (Itr 0 j.toNat) H1) : iRng1 tA σ H R := h
theorem go_iRng2 {R : It → Hp → Prop} (h : tA σ H fun vs H1 => ∃ i j : Int, vs = [.int i, .int j] ∧ (-(2 ^ 62) ≤ i ∧ i < 2 ^ 62 ∧ -(2 ^ 62) ≤ j ∧ j < 2 ^ 62) ∧ R (Itr i (j - i).toNat) H1) : iRng2 tA σ H R := h
theorem go_lc {wi : TI} {g : TG} {tt : TT} {vs : List Nat} (h : wi σ H fun J H1 => ∀ D, H1 D = none → ∃ W : Nat → Nat → Hp → Prop, (∃ m, W 0 m (upd H1 D (.lst []))) ∧ ∀ i m H, W i m H →
  (J.stop i H ∧ Q (.ref D) H) ∨ (J.go i H ∧ ∃ Nx : Hp → Prop, (∀ H', Nx H' → ∃ m', m' < m ∧ W (i + 1) m' H') ∧ ∀ x H', J.yld i H x H' → g x (wipe σ vs) H' fun σ2 H2 => wipe σ2 vs = wipe σ vs ∧ tt σ2 H2 fun b H3 =>
    if b = true then te σ2 H3 fun y H4 => ∃ acc, H4 D = some (.lst acc) ∧ acc.length < sizeLine ∧ Nx (upd H4 D (.lst (acc ++ [y]))) else Nx H3)) : tLc wi g tt te vs σ H Q := h
theorem go_yes {Q : Bool → Hp → Prop} (h : Q true H) : tYes σ H Q := h
/-- o.f of a class that is told -/
def tFldC (C : Addr) (ta : TE) (f : Str) : TE := fun σ H Q => ta σ H fun x H1 => ∃ a dx fs v, x = .ref a ∧ H1 a = some (.ins C dx fs) ∧ fs.lookup f = some v ∧ Q v H1
theorem pe_fldC {X : Cx} {C : Addr} {e : Expr} {f : Str} {pos : Pos} (c : Cls X.K C) (n : NoAttr X.K C f) (he : PE X e ta) (hb : attributeBase e f X.env (eval e X.env) = eval e X.env := by rfl) : PE X (.Attribute e f pos) (tFldC C ta f) :=
  ⟨fun pins s σ H Q I h => attr_of hb (thn (he.run pins s σ H _ I h) fun u s1 ⟨x, H1, I1, rx, a, dx, fs, v, ex, ea, l, q⟩ => by
    subst ex
    obtain rfl : u = Value.ref a := rx
    exact getattr_ok I1 ea c n l fun w s2 I2 r2 => ⟨v, H1, I2, r2, q⟩)⟩
/-- o.f = e of a class that is told -/
def sFldC (C : Addr) (ta tv : TE) (f : Str) : TS := fun D σ H => tv σ H fun y H1 => ta σ H1 fun x H2 => ∃ a dx fs, x = .ref a ∧ H2 a = some (.ins C dx fs) ∧ fs.length < 1000 ∧ D.nx σ (upd H2 a (.ins C dx (putF f y fs)))
theorem ps_fldC {X : Cx} {C : Addr} {o value : Expr} {f : Str} {pos pos' : Pos} (c : Cls X.K C) (n : NoAttr X.K C f) (ha : PE X o ta) (hv : PE X value tv) (hs : swapsWith value (some (.Attribute o f pos')) pos.line X.env = pure false := by rfl) :
    PS X (.Assign [.Attribute o f pos'] value pos) (sFldC C ta tv f) := by
  refine ⟨fun pins s σ H D I h => ?_⟩
  refine plainObj_wpAny_Assign_Attribute (thn (hv.run pins s σ H _ I h) fun u s1 ⟨y, H1, I1, ry, q⟩ => thn (ha.run pins s1 σ H1 _ I1 q) fun ov s2 ⟨x, H2, I2, rx, a, dx, fs, ex, ea, l, q2⟩ => ?_) hs
  subst ex
  obtain rfl : ov = Value.ref a := rx
  exact setattr_ok I2 ea c n l ry fun s3 I3 => ⟨σ, _, I3, q2⟩
theorem go_fldC {C : Addr} {f : Str} (h : ta σ H fun x H1 => ∃ a dx fs v, x = .ref a ∧ H1 a = some (.ins C dx fs) ∧ fs.lookup f = some v ∧ Q v H1) : tFldC C ta f σ H Q := h
theorem go_fldE {C p dx : Addr} {fs : List (Str × V)} {f : Str} {v : V} (hp : H p = some (.ins C dx fs)) (hl : fs.lookup f = some v) {R : V → Prop} (h : R v) : ∃ a dx fs v, V.ref p = .ref a ∧ H a = some (.ins C dx fs) ∧ fs.lookup f = some v ∧ R v := ⟨p, dx, fs, v, rfl, hp, hl, h⟩
theorem go_sfld {C : Addr} {f : Str} (h : tv σ H fun y H1 => ta σ H1 fun x H2 => ∃ a dx fs, x = .ref a ∧ H2 a = some (.ins C dx fs) ∧ fs.length < 1000 ∧ D.nx σ (upd H2 a (.ins C dx (putF f y fs)))) : sFldC C ta tv f D σ H := h
theorem go_sfldE {C p dx : Addr} {fs : List (Str × V)} {f : Str} {y : V} {R : Hp → Prop} (hp : H p = some (.ins C dx fs)) (hl : fs.length < 1000) (h : R (upd H p (.ins C dx (putF f y fs)))) : ∃ a dx fs, V.ref p = .ref a ∧ H a = some (.ins C dx fs) ∧ fs.length < 1000 ∧ R (upd H a (.ins C dx (putF f y fs))) := ⟨p, dx, fs, rfl, hp, hl, h⟩
theorem go_ixL {p : Addr} {xs : List V} {i : Int} (hp : SqL K H p xs) (ha : atI xs i = some v) (h : Q v H) : rIxL K (.ref p) (.int i) H Q := ⟨p, xs, i, v, rfl, rfl, hp, ha, h⟩
theorem go_ixT {p : Addr} {xs : List V} {i : Int} (hp : SqT K H p xs) (ha : atI xs i = some v) (h : Q v H) : rIxT K (.ref p) (.int i) H Q := ⟨p, xs, i, v, rfl, rfl, hp, ha, h⟩
theorem go_setL {v : V} {p : Addr} {xs : List V} {k : Int} {j : Nat} {R : Hp → Prop} (hp : H p = some (.lst xs)) (hj : ixN xs.length k = some j) (h : R (upd H p (.lst (xs.set j v)))) : rSetL (.ref p) (.int k) v H R := ⟨p, xs, k, j, rfl, rfl, hp, hj, h⟩
theorem go_sub {to ti : TE} {t : TSet} {Q : L2.St → Hp → Prop} (h : to σ H fun o H1 => ti σ H1 fun i H2 => t o i v H2 fun H3 => Q σ H3) : gSub to ti t v σ H Q := h
theorem go_sl {r : V → Option Int → Option Int → Hp → VK → Prop} {tl th : TO} (h : te σ H fun x H1 => tl σ H1 fun l H2 => th σ H2 fun u H3 => r x l u H3 Q) : tSl r te tl th σ H Q := h
theorem go_noPart {Q : Option Int → Hp → Prop} (h : Q none H) : tNoPart σ H Q := h
theorem go_part {Q : Option Int → Hp → Prop} (h : te σ H fun x H1 => ∃ i, x = .int i ∧ Q (some i) H1) : tPart te σ H Q := h
theorem go_partE {i : Int} {R : Int → Prop} (h : R i) : ∃ j, V.int i = .int j ∧ R j := ⟨i, rfl, h⟩
theorem go_slL {p : Addr} {xs : List V} {lo hi : Option Int} (hp : SqL K H p xs) (h : ∀ q H', H q = none → L2.Same H H' → H' q = some (.lst (cutV xs lo hi)) → Q (.ref q) H') : rSlL K (.ref p) lo hi H Q := ⟨p, xs, rfl, hp, new_ok (R := fun p H' => Q (.ref p) H') h⟩
theorem go_cat {p q : Addr} {xs ys : List V} (hp : H p = some (.lst xs)) (hq : H q = some (.lst ys)) (hl : xs.length + ys.length ≤ 1000) (h : ∀ r H', H r = none → L2.Same H H' → H' r = some (.lst (xs ++ ys)) → Q (.ref r) H') : rCat (.ref p) (.ref q) H Q :=
  ⟨p, q, xs, ys, rfl, rfl, hp, hq, Nat.le_of_lt (small1000 hl), new_ok (R := fun p H' => Q (.ref p) H') h⟩
theorem go_rep {p : Addr} {k : Int} {xs : List V} (hp : H p = some (.lst xs)) (h0 : 0 ≤ k) (h1 : k ≤ 1000) (hl : xs.length * k.toNat ≤ 1000) (h : ∀ r H', H r = none → L2.Same H H' → H' r = some (.lst (List.replicate k.toNat xs).flatten) → Q (.ref r) H') : rRep (.ref p) (.int k) H Q :=
  ⟨p, k, xs, rfl, rfl, hp, by omega, by omega, Nat.le_of_lt (small1000 hl), new_ok (R := fun p H' => Q (.ref p) H') h⟩
/-- built-ins by names -/
def rLen (K : PySem.W.Frag) : List V → Hp → VK → Prop := fun xs H Q => ∃ x n, xs = [x] ∧ LenV K x H n ∧ Q (.int n) H
def rAbs : List V → Hp → VK → Prop := fun xs H Q => ∃ i, xs = [.int i] ∧ Q (.int (if i < 0 then -i else i)) H
def rMax2 : List V → Hp → VK → Prop := fun xs H Q => ∃ i j, xs = [.int i, .int j] ∧ Q (.int (if j > i then j else i)) H
def rMin2 : List V → Hp → VK → Prop := fun xs H Q => ∃ i j, xs = [.int i, .int j] ∧ Q (.int (if j < i then j else i)) H
def rInt1 : List V → Hp → VK → Prop := fun xs H Q => (∃ i, xs = [.int i] ∧ Q (.int i) H) ∨ ∃ k, xs = [.bl k] ∧ Q (.int (if k then 1 else 0)) H
theorem call_lenX {X : Cx} : CallR X (.builtin "len") (rLen X.K) := call_len
theorem call_absX {X : Cx} : CallR X (.builtin "abs") rAbs := call_abs
theorem call_max2X {X : Cx} (hc : X.calm = true) : CallR X (.builtin "max") rMax2 := call_max2 hc
theorem call_min2X {X : Cx} (hc : X.calm = true) : CallR X (.builtin "min") rMin2 := call_min2 hc
theorem call_int1X {X : Cx} : CallR X (.type "int") rInt1 := call_int1
theorem go_abs {i : Int} (h : Q (.int (if i < 0 then -i else i)) H) : rAbs [.int i] H Q := ⟨i, rfl, h⟩
theorem go_max2 {i j : Int} (h : Q (.int (if j > i then j else i)) H) : rMax2 [.int i, .int j] H Q := ⟨i, j, rfl, h⟩
theorem go_min2 {i j : Int} (h : Q (.int (if j < i then j else i)) H) : rMin2 [.int i, .int j] H Q := ⟨i, j, rfl, h⟩
theorem go_int {i : Int} (h : Q (.int i) H) : rInt1 [.int i] H Q := .inl ⟨i, rfl, h⟩
theorem go_intB {k : Bool} (h : Q (.int (if k then 1 else 0)) H) : rInt1 [.bl k] H Q := .inr ⟨k, rfl, h⟩
theorem go_lenL {p : Addr} {xs : List V} (hp : SqL K H p xs) (h : Q (.int xs.length) H) : rLen K [.ref p] H Q := ⟨_, xs.length, rfl, .inl ⟨xs, hp, rfl⟩, h⟩
theorem go_lenT {p : Addr} {xs : List V} (hp : SqT K H p xs) (h : Q (.int xs.length) H) : rLen K [.ref p] H Q := ⟨_, xs.length, rfl, .inr ⟨xs, hp, rfl⟩, h⟩
theorem go_lenS {x : Str} (hp : x.length ≤ sizeLine) (h : Q (.int x.length) H) : rLen K [.str x] H Q := ⟨_, x.length, rfl, ⟨hp, rfl⟩, h⟩
theorem go_all {p : Addr} {bs : List Bool} (hp : SqL K H p (bs.map V.bl)) (h : Q (.bl (bs.all id)) H) : rAll K [.ref p] H Q := ⟨p, bs, rfl, hp, h⟩
theorem go_any {p : Addr} {bs : List Bool} (hp : SqL K H p (bs.map V.bl)) (h : Q (.bl (bs.any id)) H) : rAny K [.ref p] H Q := ⟨p, bs, rfl, hp, h⟩
theorem go_bm {T : String} {r : V → List V → Hp → VK → Prop} (h : ta σ H fun x H1 => tyV K T x H1 ∧ tA σ H1 fun xs H2 => r x xs H2 Q) : tBM K T r ta tA σ H Q := h
theorem go_app {l : Addr} {xs : List V} {y : V} (hl : H l = some (.lst xs)) (hz : xs.length < 1000) (h : Q .non (upd H l (.lst (xs ++ [y])))) : rAppend (.ref l) [y] H Q := ⟨l, xs, y, rfl, rfl, hl, small1000 (Nat.le_of_lt hz), h⟩
theorem ty_list {p : Addr} {xs : List V} (h : SqL K H p xs) : tyV K "list" (.ref p) H := .inl ⟨rfl, xs, h⟩
theorem go_meth {C : Addr} {m : Str} {sp : Sp} {dvs : List V} (h : ta σ H fun x H1 => ∃ a dx fs, x = .ref a ∧ H1 a = some (.ins C dx fs) ∧ fs.lookup m = none ∧ tA σ H1 fun vs H2 => sp (x :: (vs ++ dvs)) H2 Q E) : tMeth C m sp dvs E ta tA σ H Q := h
theorem go_methE {C p dx : Addr} {fs : List (Str × V)} {m : Str} {R : Prop} (hp : H p = some (.ins C dx fs)) (hl : fs.lookup m = none) (h : R) : ∃ a dx fs, V.ref p = .ref a ∧ H a = some (.ins C dx fs) ∧ fs.lookup m = none ∧ R := ⟨p, dx, fs, rfl, hp, hl, h⟩
theorem go_methN {C : Addr} {m : Str} {n mk : Nat} {sp : Sp} {gV : List V → List V → List V} {tk : TA} (h : ta σ H fun x H1 => ∃ a dx fs, x = .ref a ∧ H1 a = some (.ins C dx fs) ∧ fs.lookup m = none ∧ tA σ H1 fun vs H2 => tk σ H2 fun zs H3 => vs.length = n ∧ zs.length = mk ∧ sp (gV (x :: vs) zs) H3 Q E) : tMethN C m n mk sp gV E ta tA tk σ H Q := h
theorem go_make {C : Addr} {sp : Sp} {dvs : List V} (h : tA σ H fun vs H1 => ∀ x dx, H1 x = none → H1 dx = none → dx ≠ x → sp (.ref x :: (vs ++ dvs)) (upd (upd H1 dx (.own x)) x (.ins C dx [])) (fun v H2 => v = .non ∧ Q (.ref x) H2) E) : tMake C sp dvs E tA σ H Q := h
theorem go_makeK {C : Addr} {n m : Nat} {sp : Sp} {gV : List V → List V → List V} {tk : TA} (h : tA σ H fun vs H1 => tk σ H1 fun zs H2 => vs.length = n ∧ zs.length = m ∧ ∀ x dx, H2 x = none → H2 dx = none → dx ≠ x → sp (gV (.ref x :: vs) zs) (upd (upd H2 dx (.own x)) x (.ins C dx [])) (fun v H3 => v = .non ∧ Q (.ref x) H3) E) : tMakeK C n m sp gV E tA tk σ H Q := h
theorem go_two {A B R : Prop} (a : A) (b : B) (h : R) : A ∧ B ∧ R := ⟨a, b, h⟩
theorem go_own2 {C p q dx dy : Addr} {fs gs : List (Str × V)} {sp : Sp} (hp : H p = some (.ins C dx fs)) (hq : H q = some (.ins C dy gs)) (h : sp [.ref p, .ref q] H Q E) : rOwn2 C sp E (.ref p) (.ref q) H Q := ⟨p, dx, fs, q, dy, gs, rfl, rfl, hp, hq, h⟩
theorem go_ownI {C p dx : Addr} {fs : List (Str × V)} {sp : Sp} {i : Int} (hp : H p = some (.ins C dx fs)) (h : sp [.ref p, .int i] H Q E) : rOwnI C sp E (.ref p) (.int i) H Q := ⟨p, dx, fs, i, rfl, rfl, hp, h⟩
theorem go_ownU {C p dx : Addr} {fs : List (Str × V)} {sp : Sp} (hp : H p = some (.ins C dx fs)) (h : sp [.ref p] H Q E) : rOwnU C sp E (.ref p) H Q := ⟨p, dx, fs, rfl, hp, h⟩
theorem go_refl {C p dx : Addr} {fs : List (Str × V)} {sp : Sp} {i : Int} (hp : H p = some (.ins C dx fs)) (h : sp [.ref p, .int i] H Q E) : rRefl C sp E (.int i) (.ref p) H Q := ⟨i, p, dx, fs, rfl, rfl, hp, h⟩
end go2

/-! ### keywords and defaults -/
section
variable {K : PySem.W.Frag} {x qual : Str} {st : Stmt} {f : Addr} {fd : FuncData} {ps : List Str}
theorem Fun_kb (F : Fun K x qual st f fd) (n : Nat) (ks : List Str) (g : {α : Type} → List α → List α → List α) (hrel : ∀ {vs zs : List V} {us ws : List Value}, Vals vs us → Vals zs ws → Vals (g vs zs) (g us ws))
    (h : ∀ (kV doc pm : Value) (an : Option Addr) (cdv ct : Value) (us ws : List Value), us.length = n → ws.length = ks.length → bindArgs (PySem.W.fnOf x qual (defArgs st) (defBody st) (defScope st) .none kV doc pm an cdv ct) ⟨us, ks.zip ws⟩ = pure (ps.zip (g us ws))) :
    ∃ g', KBn K fd ps n ks g' (fun vs zs => g vs zs) := by
  obtain ⟨oc, od, kV, doc, pm, an, cdv, ct, osl, rfl, lk, hcd⟩ := F.ex
  exact ⟨fun us ws => g us ws, ⟨fun s us ws _ l1 l2 => .of_eq (h kV doc pm an cdv ct us ws l1 l2), fun r1 r2 => hrel r1 r2⟩⟩
theorem Vals_rev : ∀ {vs : List V} {us : List Value}, Vals vs us → Vals vs.reverse us.reverse := fun {vs us} h => by
  induction h with
  | nil => exact .nil
  | cons r _ ih =>
    rw [List.reverse_cons, List.reverse_cons]
    exact Vals.append ih (.cons r .nil)
end
section
variable {K : PySem.W.Frag} {x qual : Str} {params : Arguments} {body : List Stmt} {scope : Scope} {dvs : List V} {f : Addr} {fd : FuncData} {ps : List Str}
theorem FunD_all (F : FunD K x qual params body scope dvs [] f fd) (hd : dvs ≠ [])
    (h : ∀ (T : Addr) (kV doc pm : Value) (an : Option Addr) (cdv ct : Value) (us its : List Value), us.length = ps.length → its.length = dvs.length →
      ∃ k, bindArgs (PySem.W.fnOf x qual params body scope (.ref T) kV doc pm an cdv ct) ⟨us, []⟩ = seqItems? (.ref T) >>= k ∧ k (some its.toArray) = pure (ps.zip us)) : Binds K fd ps [] := by
  obtain ⟨ds, h1, h2⟩ := F.binds1 (ps := ps) ps.length dvs.length hd (by omega) fun T kV doc pm an cdv ct us its l1 l2 => by
    obtain ⟨k, e1, e2⟩ := h T kV doc pm an cdv ct us its l1 l2
    refine ⟨k, e1, ?_⟩
    rw [← l2, List.drop_length, List.append_nil]
    exact e2
  rw [List.drop_length] at h1
  cases h1
  exact h2
end
end SL

set_option Elab.async false
set_option linter.all false
set_option maxRecDepth 100000
set_option maxHeartbeats 4000000
namespace SL
open PySem L2 PySem.Spec PyProof.Rows

/-! ### str(own), str(int), str(text) -/
section
variable {X : Cx} {CX : CXT} {k : Nat} {f C : Addr} {fd : FuncData} {ps : List Str} {sp : Sp} {E : XK}
/-- a def called two C units deeper (out of a type's call) -/
theorem run_fn2 {pins : List (Addr × Obj)} {σ : L2.St} {H : Hp} {s : Shared} {Q : VK} {us : List Value} {vs : List V} {dvs : List V} {ds : List Value} (F : FnOk X.prog X.w X.K X.mg X.base CX k f fd ps sp) (hr : Room (k + 2) X.A) (hb : Binds X.K fd ps ds) (hd : Vals dvs ds) (hx : Passes CX X E)
    (I : Inv X pins σ H s) (r : Vals vs us) (h : sp (vs ++ dvs) H Q E) : wpAny (model X.prog X.w) X.A.in1.in1 (call (.ref f) us) (EP X pins σ Q) X.xe s := by
  have r2 : Vals (vs ++ dvs) (us ++ ds) := r.append hd
  have hl : (us ++ ds).length = ps.length := by rw [← r2.length]; exact F.len _ _ _ _ h
  refine wpAny_call (codeAny_mono (F.run X.A.in1.in1 X.stack s H ⟨us, []⟩ (us ++ ds) (vs ++ dvs) Q E hr.in1.in1 I.env0.in1.in1 (hb s us I.kIn hl) r2 h) fun r s' hq => ?_)
  cases r with
  | error e => exact hx pins σ H s e s' I hq
  | ok fl =>
    cases fl with
    | ret u => exact I.after hq
    | next => exact False.elim hq
    | brk => exact False.elim hq
    | cont => exact False.elim hq
def rStrOwn (C : Addr) (sp : Sp) (E : XK) : List V → Hp → VK → Prop := fun xs H Q => ∃ a dx fs, xs = [.ref a] ∧ H a = some (.ins C dx fs) ∧ sp [.ref a] H (fun v H' => ∃ z, v = .str z ∧ Q v H') E
theorem call_strOwn (o : OwnOp X.K C f "__str__") (F : FnOk X.prog X.w X.K X.mg X.base CX k f fd ps sp) (hr : Room (k + 2) X.A) (hb : Binds X.K fd ps []) (hx : Passes CX X E) : CallR X (.type "str") (rStrOwn C sp E) := by
  intro pins s σ H xs us Q I r h
  obtain ⟨a, dx, fs, rfl, ha, h⟩ := h
  obtain ⟨u, rfl, rfl⟩ := vals1 r
  obtain ⟨od, J⟩ := inst_of I ha
  refine PySem.W.kso_call hr.in1.in1.units0 I.kIn J o.at_ o.fn (wpAny_mono (run_fn2 (us := [.ref a]) (vs := [.ref a]) F hr hb .nil hx I (.cons rfl .nil) h) (fun v s' q => ?_) fun _ _ e => e)
  obtain ⟨x, H', I', rx, z, rfl, q⟩ := q
  obtain ⟨t, rfl⟩ := rx
  exact ⟨.str z, H', I', ⟨t, rfl⟩, q⟩
def rStrI : List V → Hp → VK → Prop := fun xs H Q => ∃ i, xs = [.int i] ∧ i.natAbs.log2 < 1920 ∧ Q (.str (toString i)) H
theorem call_strIX : CallR X (.type "str") rStrI := call_str_int
def rStrS : List V → Hp → VK → Prop := fun xs H Q => ∃ a, xs = [.str a] ∧ Q (.str a) H
theorem call_strSX : CallR X (.type "str") rStrS := SkE.call_str_str
theorem op_addSt : OpR X (binaryOp .Add) rAddS := op_add_str
/-! ### comparisons of texts -/
def rLtS : R2 := fun x y H Q => ∃ i j, x = .str i ∧ y = .str j ∧ Q (.bl (decide (i.cps.toList < j.cps.toList))) H
def rLeS : R2 := fun x y H Q => ∃ i j, x = .str i ∧ y = .str j ∧ Q (.bl (!decide (j.cps.toList < i.cps.toList))) H
def rGtS : R2 := fun x y H Q => ∃ i j, x = .str i ∧ y = .str j ∧ Q (.bl (decide (j.cps.toList < i.cps.toList))) H
def rGeS : R2 := fun x y H Q => ∃ i j, x = .str i ∧ y = .str j ∧ Q (.bl (!decide (i.cps.toList < j.cps.toList))) H
theorem op_ltS : OpR X (compareOp .Lt) rLtS := op_lt_str
theorem op_leS : OpR X (compareOp .LtE) rLeS := op_le_str
theorem op_gtS : OpR X (compareOp .Gt) rGtS := op_gt_str
theorem op_geS : OpR X (compareOp .GtE) rGeS := op_ge_str
/-! ### texts made of parts -/
def tJ (ts : List TE) : TE := fun σ H Q => tJs ts Str.empty σ H fun out H1 => Q (.str out) H1
theorem pe_joinedX {v1 v2 : Expr} {rest : List Expr} {ts : List TE} {pos : Pos} (h : PJ X (v1 :: v2 :: rest) ts) : PE X (.JoinedStr (v1 :: v2 :: rest) pos) (tJ ts) := pe_joined h
def rJoin (K : PySem.W.Frag) : V → List V → Hp → VK → Prop := fun x xs H Q => ∃ a p, ∃ ys : List Str, x = .str a ∧ xs = [.ref p] ∧ (SqL K H p (ys.map V.str) ∨ SqT K H p (ys.map V.str)) ∧
    (ys.map (·.length)).sum + ys.length * a.length ≤ 16777216 ∧ Q (.str (Txt.join a ys)) H
theorem mt_joinX : MtR X "str.join" (rJoin X.K) := mt_join
/-! ### tuple(..) -/
def rTupOf (K : PySem.W.Frag) : List V → Hp → VK → Prop := fun xs H Q => ∃ p ys, xs = [.ref p] ∧ ((SqL K H p ys ∧ ∀ l, H l = none → Q (.ref l) (upd H l (.tup ys))) ∨ (SqT K H p ys ∧ Q (.ref p) H))
theorem call_tupX : CallR X (.type "tuple") (rTupOf X.K) := call_tuple_of
theorem _root_.L2.Room.units1 {A : Around} (r : Room k A) : A.units + 1 < cLine := by have := r.un; omega
end

/-! ### steps -/
section
variable {K : PySem.W.Frag} {D : Ends} {σ : L2.St} {H : Hp} {Q : VK} {te ta tb tc tv to : TE} {tA : TA} {v x y : V} {i j : Nat} {E : XK}
theorem go_strOwn {C a dx : Addr} {fs : List (Str × V)} {sp : Sp} (ha : H a = some (.ins C dx fs)) (h : sp [.ref a] H (fun v H' => ∃ z, v = .str z ∧ Q v H') E) : rStrOwn C sp E [.ref a] H Q := ⟨a, dx, fs, rfl, ha, h⟩
theorem go_strI {i : Int} (hz : i.natAbs.log2 < 1920) (h : Q (.str (toString i)) H) : rStrI [.int i] H Q := ⟨i, rfl, hz, h⟩
theorem go_strS {z : Str} (h : Q (.str z) H) : rStrS [.str z] H Q := ⟨z, rfl, h⟩
theorem go_ltS {z z' : Str} (h : Q (.bl (decide (z.cps.toList < z'.cps.toList))) H) : rLtS (.str z) (.str z') H Q := ⟨z, z', rfl, rfl, h⟩
theorem go_leS {z z' : Str} (h : Q (.bl (!decide (z'.cps.toList < z.cps.toList))) H) : rLeS (.str z) (.str z') H Q := ⟨z, z', rfl, rfl, h⟩
theorem go_chain {r r' : R2} (h : ta σ H fun x H1 => tb σ H1 fun y H2 => r x y H2 fun z H3 => ∃ k, z = .bl k ∧ (if k = true then tc σ H3 fun w' H4 => r' y w' H4 Q else Q (.bl false) H3)) : tChain r r' ta tb tc σ H Q := h
theorem go_j {ts : List TE} (h : tJs ts Str.empty σ H fun out H1 => Q (.str out) H1) : tJ ts σ H Q := h
theorem go_js0 {acc : Str} {R : Str → Hp → Prop} (h : R acc H) : tJs [] acc σ H R := h
theorem go_js {ts : List TE} {acc : Str} {R : Str → Hp → Prop} (h : te σ H fun x H1 => ∃ y : Str, x = .str y ∧ (acc ++ y).length ≤ sizeLine ∧ tJs ts (acc ++ y) σ H1 R) : tJs (te :: ts) acc σ H R := h
theorem go_fmt (h : te σ H fun x H1 => (∃ y : Str, x = .str y ∧ y.length ≤ sizeLine ∧ Q (.str y) H1) ∨ ∃ i : Int, x = .int i ∧ i.natAbs.log2 < 1920 ∧ Q (.str (toString i)) H1) : tFmt te σ H Q := h
theorem fmtS {z : Str} {R : V → Prop} (hl : z.length ≤ sizeLine) (h : R (.str z)) : (∃ y : Str, V.str z = .str y ∧ y.length ≤ sizeLine ∧ R (.str y)) ∨ ∃ i : Int, V.str z = .int i ∧ i.natAbs.log2 < 1920 ∧ R (.str (toString i)) := .inl ⟨z, rfl, hl, h⟩
theorem fmtI {i : Int} {R : V → Prop} (hl : i.natAbs.log2 < 1920) (h : R (.str (toString i))) : (∃ y : Str, V.int i = .str y ∧ y.length ≤ sizeLine ∧ R (.str y)) ∨ ∃ j : Int, V.int i = .int j ∧ j.natAbs.log2 < 1920 ∧ R (.str (toString j)) := .inr ⟨i, rfl, hl, h⟩
theorem jsE {acc z : Str} {R : Str → Prop} (hl : (acc ++ z).length ≤ sizeLine) (h : R z) : ∃ y : Str, V.str z = .str y ∧ (acc ++ y).length ≤ sizeLine ∧ R y := ⟨z, rfl, hl, h⟩
theorem isS {z : Str} {A : Prop} (h : A) : (∃ a, V.str z = .str a) ∧ A := ⟨⟨z, rfl⟩, h⟩
theorem go_m1 {r : V → List V → Hp → VK → Prop} (h : to σ H fun x H1 => (∃ a, x = .str a) ∧ te σ H1 fun y H2 => r x [y] H2 Q) : tM1 r to te σ H Q := h
theorem go_addS {z z' : Str} (hl : z.length + z'.length ≤ sizeLine) (h : Q (.str (z ++ z')) H) : rAddS (.str z) (.str z') H Q := ⟨z, z', rfl, rfl, hl, h⟩
theorem go_tupL {p : Addr} {ys : List V} (hp : SqL K H p ys) (h : ∀ l H', H l = none → L2.Same H H' → H' l = some (.tup ys) → Q (.ref l) H') : rTupOf K [.ref p] H Q :=
  ⟨p, ys, rfl, .inl ⟨hp, new_ok (R := fun p H' => Q (.ref p) H') h⟩⟩
theorem go_iStr {R : It → Hp → Prop} (h : te σ H fun v H1 => ∃ x, v = .str x ∧ R (Its x) H1) : iStr te σ H R := h
theorem go_iZip {R : It → Hp → Prop} (h : tA σ H fun vs H1 => ∃ a b xs ys, vs = [.ref a, .ref b] ∧ SqL K H1 a xs ∧ SqL K H1 b ys ∧ R (Itz K a b) H1) : iZip K tA σ H R := h
theorem go_iKeys {R : It → Hp → Prop} (h : te σ H fun x H1 => ∃ d o, x = .ref d ∧ ((∃ kvs, H1 d = some (.frz o (.dK kvs)) ∧ R (Itk d o kvs) H1) ∨ ∃ kvs, H1 d = some (.frz o (.dT kvs)) ∧ R (Itkt d o kvs) H1)) : iKeys te σ H R := h
theorem go_dget (h : ta σ H fun x H1 => tb σ H1 fun y H2 => ∃ a v, x = .ref a ∧ DGet H2 a y (some v) ∧ Q v H2) : tDGet ta tb σ H Q := h
theorem go_dc {wi : TI} {g : TG} {tt : TT} {tk : TE} {vs : List Nat} (h : wi σ H fun J H1 => ∀ D, H1 D = none → ∃ W : Nat → Nat → Hp → Prop, (∃ m, W 0 m (upd H1 D (.dK []))) ∧ ∀ i m H, W i m H →
  (J.stop i H ∧ Q (.ref D) H) ∨ (J.go i H ∧ ∃ Nx : Hp → Prop, (∀ H', Nx H' → ∃ m', m' < m ∧ W (i + 1) m' H') ∧ ∀ x H', J.yld i H x H' → g x (wipe σ vs) H' fun σ2 H2 => wipe σ2 vs = wipe σ vs ∧ tt σ2 H2 fun b H3 =>
    if b = true then tk σ2 H3 fun y H4 => tv σ2 H4 fun z H5 => ∃ kvs k, y = kV k ∧ H5 D = some (.dK kvs) ∧ kvs.length < sizeLine ∧ Nx (upd H5 D (.dK (putK kvs k z))) else Nx H3)) : tDc wi g tt tk tv vs σ H Q := h
end

/-! ### comprehensions over heaps that only grow -/
/-- what is not a list or a dict stays -/
def Imm (H H' : Hp) : Prop := ∀ p o, (∀ xs, o ≠ .lst xs) → (∀ kvs, o ≠ .dK kvs) → (∀ kvs, o ≠ .dT kvs) → H p = some o → H' p = some o
theorem Imm.of {H H' : Hp} (e : L2.Same H H') : Imm H H' := fun p o _ _ _ h => e p o h
theorem Imm.tup {H H' : Hp} {p : Addr} {xs : List V} (e : Imm H H') (h : H p = some (.tup xs)) : H' p = some (.tup xs) := e p _ (fun _ z => by cases z) (fun _ z => by cases z) (fun _ z => by cases z) h
theorem Imm.ins {H H' : Hp} {p C dx : Addr} {fs : List (Str × V)} (e : Imm H H') (h : H p = some (.ins C dx fs)) : H' p = some (.ins C dx fs) := e p _ (fun _ z => by cases z) (fun _ z => by cases z) (fun _ z => by cases z) h
theorem Imm.updL {H : Hp} {p : Addr} {xs ys : List V} (h : H p = some (.lst xs)) : Imm H (upd H p (.lst ys)) := fun q o n1 _ _ hq => by
  by_cases e : q = p
  · subst e; rw [h] at hq; cases hq; exact absurd rfl (n1 _)
  · rw [upd_ne e]; exact hq
theorem Imm.updD {H : Hp} {p : Addr} {xs ys : List (Key × V)} (h : H p = some (.dK xs)) : Imm H (upd H p (.dK ys)) := fun q o _ n1 _ hq => by
  by_cases e : q = p
  · subst e; rw [h] at hq; cases hq; exact absurd rfl (n1 _)
  · rw [upd_ne e]; exact hq
theorem Imm.trans {H H' H'' : Hp} (e : Imm H H') (f : Imm H' H'') : Imm H H'' := fun p o a b c h => f p o a b c (e p o a b c h)
section
variable {J : It} {n : Nat} {G : Hp → Prop} {Y : Nat → Hp → V → Hp → Prop} {g : TG} {tt : TT} {te tk tv : TE} {vs : List Nat} {σ : L2.St} {H1 : Hp} {Qd : Addr → Hp → Prop}
theorem lc_ext (w : Walk J n G Y) (R : Nat → List V → Hp → Prop) (mono : ∀ i ys H H', Imm H H' → R i ys H → R i ys H') (h0 : R 0 [] H1) (hG : ∀ H', L2.Same H1 H' → G H') (hn : n ≤ 1000) (hY : ∀ i H x H', Y i H x H' → L2.Same H H')
    (hs : ∀ i ys x H H' (P : VK) (N : Hp → Prop), i < n → L2.Same H1 H → R i ys H → Y i H x H' → (∀ y H4, L2.Same H' H4 → R (i + 1) (ys ++ [y]) H4 → P y H4) → (∀ H3, L2.Same H' H3 → R (i + 1) ys H3 → N H3) →
      g x (wipe σ vs) H' fun σ2 H2 => wipe σ2 vs = wipe σ vs ∧ tt σ2 H2 fun b H3 => if b = true then te σ2 H3 P else N H3)
    (hd : ∀ D ys H', H1 D = none → L2.Same H1 H' → H' D = some (.lst ys) → ys.length ≤ n → R n ys H' → Qd D H') :
    ∀ D, H1 D = none → ∃ W : Nat → Nat → Hp → Prop, (∃ m, W 0 m (upd H1 D (.lst []))) ∧ ∀ i m H, W i m H →
      (J.stop i H ∧ Qd D H) ∨ (J.go i H ∧ ∃ Nx : Hp → Prop, (∀ H', Nx H' → ∃ m', m' < m ∧ W (i + 1) m' H') ∧ ∀ x H', J.yld i H x H' → g x (wipe σ vs) H' fun σ2 H2 => wipe σ2 vs = wipe σ vs ∧ tt σ2 H2 fun b H3 =>
        if b = true then te σ2 H3 fun y H4 => ∃ acc, H4 D = some (.lst acc) ∧ acc.length < sizeLine ∧ Nx (upd H4 D (.lst (acc ++ [y]))) else Nx H3) := by
  intro D hD
  refine ⟨fun i m H => m = n - i ∧ i ≤ n ∧ L2.Same H1 H ∧ ∃ ys, H D = some (.lst ys) ∧ ys.length ≤ i ∧ R i ys H, ⟨n, by simp, Nat.zero_le _, Same.new hD, [], upd_same, Nat.le_refl _, mono _ _ _ _ (Imm.of (Same.new hD)) h0⟩, ?_⟩
  rintro i m H ⟨rfl, hi, e, ys, hys, hl, hR⟩
  have q := hG H e
  by_cases hlt : i < n
  · refine .inr ⟨w.goes i H hlt q, fun H' => i + 1 ≤ n ∧ L2.Same H1 H' ∧ ∃ ys, H' D = some (.lst ys) ∧ ys.length ≤ i + 1 ∧ R (i + 1) ys H', fun H' ⟨a, b, c⟩ => ⟨n - (i + 1), by omega, rfl, a, b, c⟩, fun x H' y => ?_⟩
    have y' := w.yields i H x H' hlt q y
    have e' := hY _ _ _ _ y'
    refine hs i ys x H H' _ _ hlt e hR y' (fun y H4 e4 r4 => ?_) (fun H3 e3 r3 => ⟨hlt, (e.trans e').trans e3, ys, (e'.trans e3) _ _ hys, by omega, r3⟩)
    have hD4 := (e'.trans e4) _ _ hys
    exact ⟨ys, hD4, small1000 (by omega), hlt, Same.mut ((e.trans e').trans e4) hD, _, upd_same, by rw [List.length_append]; show ys.length + 1 ≤ i + 1; omega, mono _ _ _ _ (Imm.updL hD4) r4⟩
  · have : i = n := by omega
    subst this
    exact .inl ⟨w.stops H q, hd D ys H hD e hys hl hR⟩
theorem dc_ext (w : Walk J n G Y) (R : Nat → List (Key × V) → Hp → Prop) (mono : ∀ i ys H H', Imm H H' → R i ys H → R i ys H') (h0 : R 0 [] H1) (hG : ∀ H', L2.Same H1 H' → G H') (hn : n ≤ 1000) (hY : ∀ i H x H', Y i H x H' → L2.Same H H')
    (hz : ∀ i ys H, i ≤ n → R i ys H → ys.length ≤ 1000)
    (hs : ∀ i ys x H H' (P : V → V → Hp → Prop) (N : Hp → Prop), i < n → L2.Same H1 H → R i ys H → Y i H x H' → (∀ k z H4, L2.Same H' H4 → R (i + 1) (putK ys k z) H4 → P (kV k) z H4) → (∀ H3, L2.Same H' H3 → R (i + 1) ys H3 → N H3) →
      g x (wipe σ vs) H' fun σ2 H2 => wipe σ2 vs = wipe σ vs ∧ tt σ2 H2 fun b H3 => if b = true then tk σ2 H3 fun y H4 => tv σ2 H4 fun z H5 => P y z H5 else N H3)
    (hd : ∀ D ys H', H1 D = none → L2.Same H1 H' → H' D = some (.dK ys) → R n ys H' → Qd D H') :
    ∀ D, H1 D = none → ∃ W : Nat → Nat → Hp → Prop, (∃ m, W 0 m (upd H1 D (.dK []))) ∧ ∀ i m H, W i m H →
      (J.stop i H ∧ Qd D H) ∨ (J.go i H ∧ ∃ Nx : Hp → Prop, (∀ H', Nx H' → ∃ m', m' < m ∧ W (i + 1) m' H') ∧ ∀ x H', J.yld i H x H' → g x (wipe σ vs) H' fun σ2 H2 => wipe σ2 vs = wipe σ vs ∧ tt σ2 H2 fun b H3 =>
        if b = true then tk σ2 H3 fun y H4 => tv σ2 H4 fun z H5 => ∃ kvs k, y = kV k ∧ H5 D = some (.dK kvs) ∧ kvs.length < sizeLine ∧ Nx (upd H5 D (.dK (putK kvs k z))) else Nx H3) := by
  intro D hD
  refine ⟨fun i m H => m = n - i ∧ i ≤ n ∧ L2.Same H1 H ∧ ∃ ys, H D = some (.dK ys) ∧ R i ys H, ⟨n, by simp, Nat.zero_le _, Same.new hD, [], upd_same, mono _ _ _ _ (Imm.of (Same.new hD)) h0⟩, ?_⟩
  rintro i m H ⟨rfl, hi, e, ys, hys, hR⟩
  have q := hG H e
  by_cases hlt : i < n
  · refine .inr ⟨w.goes i H hlt q, fun H' => i + 1 ≤ n ∧ L2.Same H1 H' ∧ ∃ ys, H' D = some (.dK ys) ∧ R (i + 1) ys H', fun H' ⟨a, b, c⟩ => ⟨n - (i + 1), by omega, rfl, a, b, c⟩, fun x H' y => ?_⟩
    have y' := w.yields i H x H' hlt q y
    have e' := hY _ _ _ _ y'
    refine hs i ys x H H' (fun y z H5 => _) _ hlt e hR y' (fun k z H4 e4 r4 => ?_) (fun H3 e3 r3 => ⟨hlt, (e.trans e').trans e3, ys, (e'.trans e3) _ _ hys, r3⟩)
    have hD4 := (e'.trans e4) _ _ hys
    exact ⟨ys, k, rfl, hD4, small1000 (hz _ _ _ hi hR), hlt, Same.mut ((e.trans e').trans e4) hD, _, upd_same, mono _ _ _ _ (Imm.updD hD4) r4⟩
  · have : i = n := by omega
    subst this
    exact .inl ⟨w.stops H q, hd D ys H hD e hys hR⟩
end
end SL

set_option Elab.async false
set_option linter.all false
set_option maxRecDepth 100000
set_option maxHeartbeats 4000000
namespace SL
open PySem L2 PySem.Spec PyProof.Rows

/-- the classes' addresses; cls: those that values may be of -/
structure Cl where
  C_Ratio : Addr := 0
  C_Form : Addr := 0
  C_Facts : Addr := 0
  C_Puppet : Addr := 0
  C_Script : Addr := 0
  C_Run : Addr := 0
  C_Wish : Addr := 0
  C_InvalidNumber : Addr := 0
  C_InvalidText : Addr := 0
  C_InvalidForm : Addr := 0
  emp : Addr := 0
  cls : List Addr := []
/-- what kind a value is of -/
inductive Ty where
  | non | bl | int | str | lst | tup | dic | cls (C : Addr)
  deriving DecidableEq
inductive Kd (K : PySem.W.Frag) (a : Cl) (H : Hp) : V → Ty → Prop where
  | non : Kd K a H .non .non
  | bl (b : Bool) : Kd K a H (.bl b) .bl
  | int (i : Int) : Kd K a H (.int i) .int
  | str (x : Str) : Kd K a H (.str x) .str
  | lst {p : Addr} {xs : List V} (h : H p = some (.lst xs)) : Kd K a H (.ref p) .lst
  | tup {p : Addr} {xs : List V} (h : H p = some (.tup xs)) : Kd K a H (.ref p) .tup
  | tupK {p : Addr} {o : Obj} (e : K.lookup p = some o) (c : o.cls = .type "tuple") : Kd K a H (.ref p) .tup
  | tupF {p : Addr} {o : Obj} {xs : List V} (h : H p = some (.frz o (.tup xs))) : Kd K a H (.ref p) .tup
  | dK {p : Addr} {kvs : List (Key × V)} (h : H p = some (.dK kvs)) : Kd K a H (.ref p) .dic
  | dT {p : Addr} {kvs : List (List Key × V)} (h : H p = some (.dT kvs)) : Kd K a H (.ref p) .dic
  | ins {p C dx : Addr} {fs : List (Str × V)} (h : H p = some (.ins C dx fs)) (hC : C ∈ a.cls) : Kd K a H (.ref p) (.cls C)
theorem Kd.up {K : PySem.W.Frag} {a : Cl} {H H' : Hp} {v : V} {t : Ty} (e : L2.Same H H') (h : Kd K a H v t) : Kd K a H' v t := by
  cases h with
  | non => exact .non
  | bl b => exact .bl b
  | int i => exact .int i
  | str x => exact .str x
  | lst h => exact .lst (e _ _ h)
  | tup h => exact .tup (e _ _ h)
  | tupK h c => exact .tupK h c
  | tupF h => exact .tupF (e _ _ h)
  | dK h => exact .dK (e _ _ h)
  | dT h => exact .dT (e _ _ h)
  | ins h c => exact .ins (e _ _ h) c
/-- what the written part must show of a class of values -/
structure CF (K : PySem.W.Frag) (C : Addr) : Prop where
  cl : Cls K C
  ha : PySem.W.findIn K (.ref C) "__class__" = some (some (.builtin "object.__class__"))
  hn : PySem.W.specialIn K (.builtin "object.__class__") "__get__" = some (some (.builtin "getset_descriptor.__get__"))
  ht : PySem.W.takesIn K (.builtin "object.__class__") = some true
  hm : PySem.W.mroIn K C (.type "object") = some true
  kb : ∀ T ∈ (["int", "bool", "str", "tuple", "list", "dict"] : List String), PySem.W.kitOne K (.ref C) (.type T) = some false
  kt : ∀ T ∈ (["NoneType", "bool", "int", "str", "list", "tuple", "dict"] : List String), PySem.W.kitOne K (.type T) (.ref C) = some false
  nf : ∀ T ∈ (["NoneType", "bool", "int", "str", "list", "tuple", "dict"] : List String), PySem.W.notFirst K C (.type T) = true
structure KF (K : PySem.W.Frag) (a : Cl) : Prop where
  cf : ∀ C ∈ a.cls, CF K C
  cc : ∀ C ∈ a.cls, ∀ D ∈ a.cls, PySem.W.kitOne K (.ref C) (.ref D) = some (decide (C = D))
  nn : ∀ C ∈ a.cls, ∀ D ∈ a.cls, PySem.W.notFirst K C (.ref D) = true
/-- the type as the library has it -/
def Ty.val : Ty → Value
  | .non => .type "NoneType"
  | .bl => .type "bool"
  | .int => .type "int"
  | .str => .type "str"
  | .lst => .type "list"
  | .tup => .type "tuple"
  | .dic => .type "dict"
  | .cls C => .ref C
theorem Kd.tyx {K : PySem.W.Frag} {a : Cl} {H : Hp} {v : V} {t : Ty} (F : KF K a) (h : Kd K a H v t) : TyX K H v t.val := by
  cases h with
  | non => exact .base .non
  | bl b => exact .base (.bl b)
  | int i => exact .base (.int i)
  | str x => exact .base (.str x)
  | lst h => exact .base (.lst h)
  | tup h => exact .base (.tup h)
  | tupK h c => exact .kTuple h c
  | tupF h => exact .fTuple h
  | dK h => exact .base (.dK h)
  | dT h => exact .base (.dT h)
  | ins h c => exact .base (.ins h (F.cf _ c).cl (F.cf _ c).ha (F.cf _ c).hn (F.cf _ c).ht (F.cf _ c).hm)
theorem Kd.sqT {K : PySem.W.Frag} {a : Cl} {H : Hp} {p : Addr} {xs : List V} (h : SqT K H p xs) : Kd K a H (.ref p) .tup := by
  rcases h with (h | ⟨o, h⟩) | ⟨o, its, n, e, c, _⟩
  · exact .tup h
  · exact .tupF h
  · exact .tupK e c
theorem Kd.mem {K : PySem.W.Frag} {a : Cl} {H : Hp} {v : V} {C : Addr} (h : Kd K a H v (.cls C)) : C ∈ a.cls := by
  cases h with
  | ins _ c => exact c
def Ty.isInt : Ty → Bool | .int => true | .bl => true | _ => false
def Ty.isBool : Ty → Bool | .bl => true | _ => false
def Ty.isStr : Ty → Bool | .str => true | _ => false
def Ty.isTup : Ty → Bool | .tup => true | _ => false
def Ty.isLst : Ty → Bool | .lst => true | _ => false
def Ty.isDic : Ty → Bool | .dic => true | _ => false
section
variable {K : PySem.W.Frag} {a : Cl} {H : Hp} {v : V} {t : Ty} {Q : VK}
theorem kit_b {T : String} {f : Ty → Bool} (F : KF K a) (hT : T ∈ (["int", "bool", "str", "tuple", "list", "dict"] : List String)) (hb : kitB "NoneType" T = some (f .non) ∧ kitB "bool" T = some (f .bl) ∧ kitB "int" T = some (f .int) ∧ kitB "str" T = some (f .str) ∧ kitB "list" T = some (f .lst) ∧ kitB "tuple" T = some (f .tup) ∧ kitB "dict" T = some (f .dic))
    (hc : ∀ C, f (.cls C) = false) (h : Kd K a H v t) : PySem.W.kitOne K t.val (.type T) = some (f t) := by
  obtain ⟨h1, h2, h3, h4, h5, h6, h7⟩ := hb
  cases t with
  | non => exact kit_ty h1
  | bl => exact kit_ty h2
  | int => exact kit_ty h3
  | str => exact kit_ty h4
  | lst => exact kit_ty h5
  | tup => exact kit_ty h6
  | dic => exact kit_ty h7
  | cls C =>
    rw [hc C]
    exact (F.cf C h.mem).kb T hT
theorem isi_int {b : Bool} (F : KF K a) (h : Kd K a H v t) (e : t.isInt = b) (q : Q (.bl b) H) : rIsi K [v, .ty "int"] H Q :=
  ⟨v, .ty "int", t.val, .type "int", _, rfl, .ty "int", h.tyx F, kit_b F (by simp) (by decide +kernel) (fun _ => rfl) h, e ▸ q⟩
theorem isi_bool {b : Bool} (F : KF K a) (h : Kd K a H v t) (e : t.isBool = b) (q : Q (.bl b) H) : rIsi K [v, .ty "bool"] H Q :=
  ⟨v, .ty "bool", t.val, .type "bool", _, rfl, .ty "bool", h.tyx F, kit_b F (by simp) (by decide +kernel) (fun _ => rfl) h, e ▸ q⟩
theorem isi_str {b : Bool} (F : KF K a) (h : Kd K a H v t) (e : t.isStr = b) (q : Q (.bl b) H) : rIsi K [v, .ty "str"] H Q :=
  ⟨v, .ty "str", t.val, .type "str", _, rfl, .ty "str", h.tyx F, kit_b F (by simp) (by decide +kernel) (fun _ => rfl) h, e ▸ q⟩
theorem isi_tup {b : Bool} (F : KF K a) (h : Kd K a H v t) (e : t.isTup = b) (q : Q (.bl b) H) : rIsi K [v, .ty "tuple"] H Q :=
  ⟨v, .ty "tuple", t.val, .type "tuple", _, rfl, .ty "tuple", h.tyx F, kit_b F (by simp) (by decide +kernel) (fun _ => rfl) h, e ▸ q⟩
theorem isi_lst {b : Bool} (F : KF K a) (h : Kd K a H v t) (e : t.isLst = b) (q : Q (.bl b) H) : rIsi K [v, .ty "list"] H Q :=
  ⟨v, .ty "list", t.val, .type "list", _, rfl, .ty "list", h.tyx F, kit_b F (by simp) (by decide +kernel) (fun _ => rfl) h, e ▸ q⟩
theorem isi_dic {b : Bool} (F : KF K a) (h : Kd K a H v t) (e : t.isDic = b) (q : Q (.bl b) H) : rIsi K [v, .ty "dict"] H Q :=
  ⟨v, .ty "dict", t.val, .type "dict", _, rfl, .ty "dict", h.tyx F, kit_b F (by simp) (by decide +kernel) (fun _ => rfl) h, e ▸ q⟩
theorem isi_cls {C : Addr} (F : KF K a) (hC : C ∈ a.cls) (h : Kd K a H v t) (q : Q (.bl (decide (t = .cls C))) H) : rIsi K [v, .ref C] H Q := by
  refine ⟨v, .ref C, t.val, .ref C, _, rfl, .own C, h.tyx F, ?_, q⟩
  have c := (F.cf C hC).kt
  cases t with
  | non => exact c "NoneType" (by simp)
  | bl => exact c "bool" (by simp)
  | int => exact c "int" (by simp)
  | str => exact c "str" (by simp)
  | lst => exact c "list" (by simp)
  | tup => exact c "tuple" (by simp)
  | dic => exact c "dict" (by simp)
  | cls D =>
    rw [show decide (Ty.cls D = Ty.cls C) = decide (D = C) by by_cases e : D = C <;> simp [e]]
    exact F.cc D h.mem C hC
theorem nf_of {C : Addr} (F : KF K a) (hC : C ∈ a.cls) (h : Kd K a H v t) : PySem.W.notFirst K C t.val = true := by
  have c := (F.cf C hC).nf
  cases t with
  | non => exact c "NoneType" (by simp)
  | bl => exact c "bool" (by simp)
  | int => exact c "int" (by simp)
  | str => exact c "str" (by simp)
  | lst => exact c "list" (by simp)
  | tup => exact c "tuple" (by simp)
  | dic => exact c "dict" (by simp)
  | cls D => exact F.nn C hC D h.mem
end
end SL

set_option Elab.async false
set_option linter.all false
set_option maxRecDepth 100000
set_option maxHeartbeats 4000000
namespace SL
open PySem L2 PySem.Spec PyProof.Rows

/-! ### Ratios -/
def RatAt (a : Cl) (H : Hp) (p : Addr) (n d : Int) : Prop := ∃ dx, H p = some (.ins a.C_Ratio dx [("top", .int n), ("bottom", .int d)])
theorem RatAt.up {a : Cl} {H H' : Hp} {p : Addr} {n d : Int} (e : L2.Same H H') (h : RatAt a H p n d) : RatAt a H' p n d := let ⟨dx, h⟩ := h; ⟨dx, e _ _ h⟩
theorem RatAt.kd {K : PySem.W.Frag} {a : Cl} {H : Hp} {p : Addr} {n d : Int} (hR : a.C_Ratio ∈ a.cls) (h : RatAt a H p n d) : Kd K a H (.ref p) (.cls a.C_Ratio) := let ⟨_, h⟩ := h; .ins h hR
/-- an int or a Ratio, and its worth -/
def Frac (a : Cl) (H : Hp) (v : V) (n d : Int) : Prop := (v = .int n ∧ d = 1) ∨ ∃ p, v = .ref p ∧ RatAt a H p n d
theorem Frac.up {a : Cl} {H H' : Hp} {v : V} {n d : Int} (e : L2.Same H H') (h : Frac a H v n d) : Frac a H' v n d := by
  rcases h with h | ⟨p, h1, h2⟩
  · exact .inl h
  · exact .inr ⟨p, h1, h2.up e⟩
theorem Frac.int {a : Cl} {H : Hp} {n : Int} : Frac a H (.int n) n 1 := .inl ⟨rfl, rfl⟩
theorem Frac.rat {a : Cl} {H : Hp} {p : Addr} {n d : Int} (h : RatAt a H p n d) : Frac a H (.ref p) n d := .inr ⟨p, rfl, h⟩
theorem lk_top (n d : Int) : ([("top", V.int n), ("bottom", V.int d)] : List (Str × V)).lookup ("top" : Str) = some (.int n) := by
  rw [List.lookup_cons]; simp
theorem lk_bot (n d : Int) : ([("top", V.int n), ("bottom", V.int d)] : List (Str × V)).lookup ("bottom" : Str) = some (.int d) := by
  rw [List.lookup_cons, show (("bottom" : Str) == "top") = false by decide +kernel]; simp
theorem put_tb (n d : Int) : putF "bottom" (.int d) (putF "top" (.int n) []) = ([("top", V.int n), ("bottom", V.int d)] : List (Str × V)) := by
  show (if ("top" : Str) = "bottom" then [(("top" : Str), V.int d)] else (("top" : Str), V.int n) :: putF "bottom" (V.int d) []) = ([("top", V.int n), ("bottom", V.int d)] : List (Str × V))
  rw [if_neg (by decide +kernel)]
  all_goals rfl
section
variable {K : PySem.W.Frag} {a : Cl} {H : Hp} {Q : VK} {p : Addr} {n d : Int}
theorem go_top {R : V → Prop} (hp : RatAt a H p n d) (h : R (.int n)) : ∃ q dx fs v, V.ref p = .ref q ∧ H q = some (.ins a.C_Ratio dx fs) ∧ fs.lookup ("top" : Str) = some v ∧ R v := let ⟨dx, e⟩ := hp; ⟨p, dx, _, _, rfl, e, lk_top n d, h⟩
theorem go_bot {R : V → Prop} (hp : RatAt a H p n d) (h : R (.int d)) : ∃ q dx fs v, V.ref p = .ref q ∧ H q = some (.ins a.C_Ratio dx fs) ∧ fs.lookup ("bottom" : Str) = some v ∧ R v := let ⟨dx, e⟩ := hp; ⟨p, dx, _, _, rfl, e, lk_bot n d, h⟩
end

theorem go_ratM {a : Cl} {H : Hp} {p : Addr} {n d : Int} {m : Str} {R : Prop} (hp : RatAt a H p n d) (hm : (m == ("top" : Str)) = false) (hm2 : (m == ("bottom" : Str)) = false) (h : R) : ∃ q dx fs, V.ref p = .ref q ∧ H q = some (.ins a.C_Ratio dx fs) ∧ fs.lookup m = none ∧ R := by
  obtain ⟨dx, e⟩ := hp
  refine ⟨p, dx, _, rfl, e, ?_, h⟩
  rw [List.lookup_cons, hm, List.lookup_cons, hm2]
  rfl
/-! ### the promises -/
def sp_is_integer (K : PySem.W.Frag) (a : Cl) : Sp := fun vs H Q _ => ∃ v t, vs = [v] ∧ Kd K a H v t ∧ Q (.bl (decide (t = .int))) H
def sp_shared_factor (K : PySem.W.Frag) (a : Cl) : Sp := fun vs H Q _ => ∃ n d, vs = [.int n, .int d] ∧ Q (.int (gI n d)) H
def sp_is_fraction (K : PySem.W.Frag) (a : Cl) : Sp := fun vs H Q _ => ∃ v t, vs = [v] ∧ Kd K a H v t ∧ Q (.bl (decide (t = .int) || decide (t = .cls a.C_Ratio))) H
def sp_as_ratio (K : PySem.W.Frag) (a : Cl) : Sp := fun vs H Q _ => ∃ v n d, vs = [v] ∧ Frac a H v n d ∧ ∀ p H', L2.Same H H' → RatAt a H' p n d → Q (.ref p) H'
def sp_Ratio___init__ (K : PySem.W.Frag) (a : Cl) : Sp := fun vs H Q _ => ∃ p dx n d, vs = [.ref p, .int n, .int d] ∧ H p = some (.ins a.C_Ratio dx []) ∧ 0 < d ∧ Bd 8000 d ∧
  ∀ H', (∀ b o, b ≠ p → H b = some o → H' b = some o) → RatAt a H' p (nm n d) (dn n d) → Q .non H'
def cmpI (x y : Int) : Int := if x = y then 0 else if x < y then -1 else 1
def sp_compared (K : PySem.W.Frag) (a : Cl) : Sp := fun vs H Q _ => ∃ p q n1 d1 n2 d2, vs = [.ref p, .ref q] ∧ RatAt a H p n1 d1 ∧ RatAt a H q n2 d2 ∧ Bd 3000 n1 ∧ Bd 3000 d1 ∧ Bd 3000 n2 ∧ Bd 3000 d2 ∧ Q (.int (cmpI (n1 * d2) (n2 * d1))) H
/-- what two fractions are asked for -/
structure Two (n1 d1 n2 d2 : Int) : Prop where
  p1 : 0 < d1
  p2 : 0 < d2
  b1 : Bd 3000 n1
  b2 : Bd 3000 d1
  b3 : Bd 3000 n2
  b4 : Bd 3000 d2
def spBin (a : Cl) (f : Int → Int → Int → Int → Int) (g : Int → Int → Int → Int → Int) : Sp := fun vs H Q _ => ∃ p v n1 d1 n2 d2, vs = [.ref p, v] ∧ RatAt a H p n1 d1 ∧ Frac a H v n2 d2 ∧ Two n1 d1 n2 d2 ∧
  ∀ q H', L2.Same H H' → RatAt a H' q (nm (f n1 d1 n2 d2) (g n1 d1 n2 d2)) (dn (f n1 d1 n2 d2) (g n1 d1 n2 d2)) → Q (.ref q) H'
def sp_Ratio___add__ (K : PySem.W.Frag) (a : Cl) : Sp := spBin a (fun n1 d1 n2 d2 => n1 * d2 + n2 * d1) (fun _ d1 _ d2 => d1 * d2)
def sp_Ratio___sub__ (K : PySem.W.Frag) (a : Cl) : Sp := spBin a (fun n1 d1 n2 d2 => n1 * d2 - n2 * d1) (fun _ d1 _ d2 => d1 * d2)
def sp_Ratio___mul__ (K : PySem.W.Frag) (a : Cl) : Sp := spBin a (fun n1 _ n2 _ => n1 * n2) (fun _ d1 _ d2 => d1 * d2)
def sp_Ratio___radd__ (K : PySem.W.Frag) (a : Cl) : Sp := spBin a (fun n1 d1 n2 d2 => n2 * d1 + n1 * d2) (fun _ d1 _ d2 => d2 * d1)
def sp_Ratio___rsub__ (K : PySem.W.Frag) (a : Cl) : Sp := spBin a (fun n1 d1 n2 d2 => n2 * d1 - n1 * d2) (fun _ d1 _ d2 => d2 * d1)
def sp_Ratio___rmul__ (K : PySem.W.Frag) (a : Cl) : Sp := spBin a (fun n1 _ n2 _ => n2 * n1) (fun _ d1 _ d2 => d2 * d1)
def sgn (n : Int) : Int := if 0 < n then 1 else -1
def sp_Ratio_over (K : PySem.W.Frag) (a : Cl) : Sp := fun vs H Q _ => ∃ p v n1 d1 n2 d2, vs = [.ref p, v] ∧ RatAt a H p n1 d1 ∧ Frac a H v n2 d2 ∧ Two n1 d1 n2 d2 ∧ n2 ≠ 0 ∧
  ∀ q H', L2.Same H H' → RatAt a H' q (nm (sgn n2 * n1 * d2) (sgn n2 * d1 * n2)) (dn (sgn n2 * n1 * d2) (sgn n2 * d1 * n2)) → Q (.ref q) H'
def sp_Ratio_compared (K : PySem.W.Frag) (a : Cl) : Sp := fun vs H Q _ => ∃ p v n1 d1 n2 d2, vs = [.ref p, v] ∧ RatAt a H p n1 d1 ∧ Frac a H v n2 d2 ∧ Two n1 d1 n2 d2 ∧ ∀ H', L2.Same H H' → Q (.int (cmpI (n1 * d2) (n2 * d1))) H'
def sp_Ratio___neg__ (K : PySem.W.Frag) (a : Cl) : Sp := fun vs H Q _ => ∃ p n d, vs = [.ref p] ∧ RatAt a H p n d ∧ 0 < d ∧ Bd 8000 d ∧ ∀ q H', L2.Same H H' → RatAt a H' q (nm (-n) d) (dn (-n) d) → Q (.ref q) H'
def sp_Ratio___eq__ (K : PySem.W.Frag) (a : Cl) : Sp := fun vs H Q _ => ∃ p v n d t, vs = [.ref p, v] ∧ RatAt a H p n d ∧ Kd K a H v t ∧
  ((t ≠ .int ∧ t ≠ .cls a.C_Ratio ∧ Q (.bl false) H) ∨ ∃ n2 d2, Frac a H v n2 d2 ∧ ∀ H', L2.Same H H' → Q (.bl (decide (n = n2) && decide (d = d2))) H')

/-! ### readings -/
abbrev nm_is_integer : List Str := ["value"]
def rd_is_integer (K : PySem.W.Frag) (a : Cl) (E : XK) : TS := (tRet (tAndV (tCB (rIsi K) (tCons (tVar 0) (tCons (tC (.ty "int")) tNil))) (tNotV (tCB (rIsi K) (tCons (tVar 0) (tCons (tC (.ty "bool")) tNil))))))
abbrev nm_shared_factor : List Str := ["one", "two", "high", "low"]
def rd_shared_factor (K : PySem.W.Frag) (a : Cl) (E : XK) : TS := (tSeq (tPar 2 3 (tCons (tCB rAbs (tCons (tVar 0) tNil)) (tCons (tCB rAbs (tCons (tVar 1) tNil)) tNil)))
  (tSeq (tWhile (tTest (tOp (rI0 fun i j => .bl (decide (j < i))) (tVar 3) (tC (.int 0)))) (tPar 2 3 (tCons (tVar 3) (tCons (tOp (rI (fun _ j => j ≠ 0) fun i j => .int (i.fmod j)) (tVar 2) (tVar 3)) tNil))))
  (tRet (tVar 2))))
abbrev nm_is_fraction : List Str := ["value"]
def rd_is_fraction (K : PySem.W.Frag) (a : Cl) (E : XK) : TS := (tRet (tOrV (tCall (sp_is_integer K a) [] E (tCons (tVar 0) tNil)) (tCB (rIsi K) (tCons (tVar 0) (tCons (tC (.ref a.C_Ratio)) tNil)))))
abbrev nm_as_ratio : List Str := ["value"]
def rd_as_ratio (K : PySem.W.Frag) (a : Cl) (E : XK) : TS := (tRet (tIf (tB (tCB (rIsi K) (tCons (tVar 0) (tCons (tC (.ref a.C_Ratio)) tNil)))) (tVar 0) (tMake a.C_Ratio (sp_Ratio___init__ K a) [.int 1] E (tCons (tVar 0) tNil))))
abbrev nm_compared : List Str := ["one", "other", "left", "right"]
def rd_compared (K : PySem.W.Frag) (a : Cl) (E : XK) : TS := (tSeq (tPar 2 3 (tCons (tOp (rI IntMulOk fun i j => .int (i * j)) (tFldC a.C_Ratio (tVar 0) "top") (tFldC a.C_Ratio (tVar 1) "bottom")) (tCons (tOp (rI IntMulOk fun i j => .int (i * j)) (tFldC a.C_Ratio (tVar 1) "top") (tFldC a.C_Ratio (tVar 0) "bottom")) tNil)))
  (tSeq (tIfS (tTest (tOp rEq (tVar 2) (tVar 3))) (tRet (tC (.int 0))) tNext)
  (tRet (tIf (tTest (tOp (rI0 fun i j => .bl (decide (i < j))) (tVar 2) (tVar 3))) (tUn (rU fun i => .int (-i)) (tC (.int 1))) (tC (.int 1))))))
abbrev nm_Ratio___init__ : List Str := ["self", "top", "bottom", "factor"]
def rd_Ratio___init__ (K : PySem.W.Frag) (a : Cl) (E : XK) : TS := (tSeq (tIfS (tNot (tB (tCall (sp_is_integer K a) [] E (tCons (tVar 1) tNil)))) tNever tNext)
  (tSeq (tIfS (tOr (tNot (tB (tCall (sp_is_integer K a) [] E (tCons (tVar 2) tNil)))) (tTest (tOp (rI0 fun i j => .bl (decide (i < j))) (tVar 2) (tC (.int 1))))) tNever tNext)
  (tSeq (tAsg (tCall (sp_shared_factor K a) [] E (tCons (tVar 1) (tCons (tVar 2) tNil))) (gName 3))
  (tSeq (sFldC a.C_Ratio (tVar 0) (tOp (rI CDivX fun i j => .int (i.fdiv j)) (tVar 1) (tVar 3)) "top")
  (sFldC a.C_Ratio (tVar 0) (tOp (rI CDivX fun i j => .int (i.fdiv j)) (tVar 2) (tVar 3)) "bottom")))))
abbrev nm_Ratio_over : List Str := ["self", "other", "by", "sign"]
def rd_Ratio_over (K : PySem.W.Frag) (a : Cl) (E : XK) : TS := (tSeq (tIfS (tOr (tNot (tB (tCall (sp_is_fraction K a) [] E (tCons (tVar 1) tNil)))) (tTest (tOp rEq (tFldC a.C_Ratio (tCall (sp_as_ratio K a) [] E (tCons (tVar 1) tNil)) "top") (tC (.int 0))))) tNever tNext)
  (tSeq (tAsg (tCall (sp_as_ratio K a) [] E (tCons (tVar 1) tNil)) (gName 2))
  (tSeq (tAsg (tIf (tTest (tOp (rI0 fun i j => .bl (decide (j < i))) (tFldC a.C_Ratio (tVar 2) "top") (tC (.int 0)))) (tC (.int 1)) (tUn (rU fun i => .int (-i)) (tC (.int 1)))) (gName 3))
  (tRet (tMake a.C_Ratio (sp_Ratio___init__ K a) [] E (tCons (tOp (rI IntMulOk fun i j => .int (i * j)) (tOp (rI IntMulOk fun i j => .int (i * j)) (tVar 3) (tFldC a.C_Ratio (tVar 0) "top")) (tFldC a.C_Ratio (tVar 2) "bottom")) (tCons (tOp (rI IntMulOk fun i j => .int (i * j)) (tOp (rI IntMulOk fun i j => .int (i * j)) (tVar 3) (tFldC a.C_Ratio (tVar 0) "bottom")) (tFldC a.C_Ratio (tVar 2) "top")) tNil)))))))
abbrev nm_Ratio_compared : List Str := ["self", "other"]
def rd_Ratio_compared (K : PySem.W.Frag) (a : Cl) (E : XK) : TS := (tSeq (tIfS (tNot (tB (tCall (sp_is_fraction K a) [] E (tCons (tVar 1) tNil)))) tNever tNext)
  (tRet (tCall (sp_compared K a) [] E (tCons (tVar 0) (tCons (tCall (sp_as_ratio K a) [] E (tCons (tVar 1) tNil)) tNil)))))
abbrev nm_Ratio___add__ : List Str := ["self", "other", "by"]
def rd_Ratio___add__ (K : PySem.W.Frag) (a : Cl) (E : XK) : TS := (tSeq (tIfS (tNot (tB (tCall (sp_is_fraction K a) [] E (tCons (tVar 1) tNil)))) tNever tNext)
  (tSeq (tAsg (tCall (sp_as_ratio K a) [] E (tCons (tVar 1) tNil)) (gName 2))
  (tRet (tMake a.C_Ratio (sp_Ratio___init__ K a) [] E (tCons (tOp (rI0 fun i j => .int (i + j)) (tOp (rI IntMulOk fun i j => .int (i * j)) (tFldC a.C_Ratio (tVar 0) "top") (tFldC a.C_Ratio (tVar 2) "bottom")) (tOp (rI IntMulOk fun i j => .int (i * j)) (tFldC a.C_Ratio (tVar 2) "top") (tFldC a.C_Ratio (tVar 0) "bottom"))) (tCons (tOp (rI IntMulOk fun i j => .int (i * j)) (tFldC a.C_Ratio (tVar 0) "bottom") (tFldC a.C_Ratio (tVar 2) "bottom")) tNil))))))
abbrev nm_Ratio___radd__ : List Str := ["self", "other"]
def rd_Ratio___radd__ (K : PySem.W.Frag) (a : Cl) (E : XK) : TS := (tSeq (tIfS (tNot (tB (tCall (sp_is_fraction K a) [] E (tCons (tVar 1) tNil)))) tNever tNext)
  (tRet (tOp (rOwn2 a.C_Ratio (sp_Ratio___add__ K a) E) (tCall (sp_as_ratio K a) [] E (tCons (tVar 1) tNil)) (tVar 0))))
abbrev nm_Ratio___sub__ : List Str := ["self", "other", "by"]
def rd_Ratio___sub__ (K : PySem.W.Frag) (a : Cl) (E : XK) : TS := (tSeq (tIfS (tNot (tB (tCall (sp_is_fraction K a) [] E (tCons (tVar 1) tNil)))) tNever tNext)
  (tSeq (tAsg (tCall (sp_as_ratio K a) [] E (tCons (tVar 1) tNil)) (gName 2))
  (tRet (tMake a.C_Ratio (sp_Ratio___init__ K a) [] E (tCons (tOp (rI0 fun i j => .int (i - j)) (tOp (rI IntMulOk fun i j => .int (i * j)) (tFldC a.C_Ratio (tVar 0) "top") (tFldC a.C_Ratio (tVar 2) "bottom")) (tOp (rI IntMulOk fun i j => .int (i * j)) (tFldC a.C_Ratio (tVar 2) "top") (tFldC a.C_Ratio (tVar 0) "bottom"))) (tCons (tOp (rI IntMulOk fun i j => .int (i * j)) (tFldC a.C_Ratio (tVar 0) "bottom") (tFldC a.C_Ratio (tVar 2) "bottom")) tNil))))))
abbrev nm_Ratio___rsub__ : List Str := ["self", "other"]
def rd_Ratio___rsub__ (K : PySem.W.Frag) (a : Cl) (E : XK) : TS := (tSeq (tIfS (tNot (tB (tCall (sp_is_fraction K a) [] E (tCons (tVar 1) tNil)))) tNever tNext)
  (tRet (tOp (rOwn2 a.C_Ratio (sp_Ratio___sub__ K a) E) (tCall (sp_as_ratio K a) [] E (tCons (tVar 1) tNil)) (tVar 0))))
abbrev nm_Ratio___mul__ : List Str := ["self", "other", "by"]
def rd_Ratio___mul__ (K : PySem.W.Frag) (a : Cl) (E : XK) : TS := (tSeq (tIfS (tNot (tB (tCall (sp_is_fraction K a) [] E (tCons (tVar 1) tNil)))) tNever tNext)
  (tSeq (tAsg (tCall (sp_as_ratio K a) [] E (tCons (tVar 1) tNil)) (gName 2))
  (tRet (tMake a.C_Ratio (sp_Ratio___init__ K a) [] E (tCons (tOp (rI IntMulOk fun i j => .int (i * j)) (tFldC a.C_Ratio (tVar 0) "top") (tFldC a.C_Ratio (tVar 2) "top")) (tCons (tOp (rI IntMulOk fun i j => .int (i * j)) (tFldC a.C_Ratio (tVar 0) "bottom") (tFldC a.C_Ratio (tVar 2) "bottom")) tNil))))))
abbrev nm_Ratio___rmul__ : List Str := ["self", "other"]
def rd_Ratio___rmul__ (K : PySem.W.Frag) (a : Cl) (E : XK) : TS := (tSeq (tIfS (tNot (tB (tCall (sp_is_fraction K a) [] E (tCons (tVar 1) tNil)))) tNever tNext)
  (tRet (tOp (rOwn2 a.C_Ratio (sp_Ratio___mul__ K a) E) (tCall (sp_as_ratio K a) [] E (tCons (tVar 1) tNil)) (tVar 0))))
abbrev nm_Ratio___neg__ : List Str := ["self"]
def rd_Ratio___neg__ (K : PySem.W.Frag) (a : Cl) (E : XK) : TS := (tRet (tMake a.C_Ratio (sp_Ratio___init__ K a) [] E (tCons (tUn (rU fun i => .int (-i)) (tFldC a.C_Ratio (tVar 0) "top")) (tCons (tFldC a.C_Ratio (tVar 0) "bottom") tNil))))
abbrev nm_Ratio___eq__ : List Str := ["self", "other", "by"]
def rd_Ratio___eq__ (K : PySem.W.Frag) (a : Cl) (E : XK) : TS := (tSeq (tIfS (tNot (tB (tCall (sp_is_fraction K a) [] E (tCons (tVar 1) tNil)))) (tRet (tC (.bl false))) tNext)
  (tSeq (tAsg (tCall (sp_as_ratio K a) [] E (tCons (tVar 1) tNil)) (gName 2))
  (tRet (tAndV (tOp rEq (tFldC a.C_Ratio (tVar 0) "top") (tFldC a.C_Ratio (tVar 2) "top")) (tOp rEq (tFldC a.C_Ratio (tVar 0) "bottom") (tFldC a.C_Ratio (tVar 2) "bottom"))))))
local macro_rules | `(tactic| walk_at "up") => `(tactic| first | assumption | exact upd_same | (apply SL.RatAt.up; assumption; walk_at "up") | (apply SL.Same.at; assumption; walk_at "up"))
local macro_rules | `(tactic| walk_at "s0") => `(tactic| first
  | with_reducible refine SL.go_var (by with_unfolding_all rfl) ?_
  | with_reducible refine SL.go_seq ?_
  | with_reducible refine SL.go_next ?_
  | with_reducible refine SL.go_asg ?_
  | with_reducible refine SL.go_gname ?_
  | with_reducible refine SL.go_ret ?_
  | with_reducible refine SL.go_drop ?_
  | with_reducible refine SL.go_ifs ?_
  | with_reducible refine SL.go_c ?_
  | with_reducible refine SL.go_op ?_
  | with_reducible refine SL.go_un ?_
  | with_reducible refine SL.go_I0 ?_
  | with_reducible refine SL.go_U ?_
  | with_reducible refine SL.go_test ?_
  | with_reducible refine SL.go_tb ?_
  | with_reducible refine SL.go_bl ?_
  | with_reducible refine SL.go_eqI ?_
  | with_reducible refine SL.go_neI ?_
  | with_reducible refine SL.go_eqB ?_
  | with_reducible refine SL.go_neB ?_
  | with_reducible refine SL.go_eqS ?_
  | with_reducible refine SL.go_neS ?_
  | with_reducible refine SL.go_and ?_
  | with_reducible refine SL.go_or ?_
  | with_reducible refine SL.go_not ?_
  | with_reducible refine SL.go_andV ?_
  | with_reducible refine SL.go_orV ?_
  | with_reducible refine SL.go_notV ?_
  | with_reducible refine SL.go_if ?_
  | with_reducible refine SL.go_T ?_
  | with_reducible refine SL.go_F ?_
  | with_reducible refine SL.go_nT ?_
  | with_reducible refine SL.go_nF ?_
  | with_reducible refine SL.go_nil ?_
  | with_reducible refine SL.go_cons ?_
  | with_reducible refine SL.go_call ?_
  | with_reducible refine SL.go_cb ?_
  | with_reducible refine SL.go_par ?_
  | with_reducible refine SL.go_pair ?_
  | with_reducible refine SL.go_tup ?_
  | with_reducible refine SL.go_lst ?_
  | with_reducible refine SL.go_fldC ?_
  | with_reducible refine SL.go_sfld ?_
  | with_reducible refine SL.go_sub ?_
  | with_reducible refine SL.go_sl ?_
  | with_reducible refine SL.go_noPart ?_
  | with_reducible refine SL.go_part ?_
  | with_reducible refine SL.go_partE ?_
  | with_reducible refine SL.go_abs ?_
  | with_reducible refine SL.go_max2 ?_
  | with_reducible refine SL.go_min2 ?_
  | with_reducible refine SL.go_int ?_
  | with_reducible refine SL.go_intB ?_
  | with_reducible refine SL.go_bm ?_
  | with_reducible refine SL.go_meth ?_
  | with_reducible refine SL.go_methN ?_
  | with_reducible refine SL.go_make ?_
  | with_reducible refine SL.go_makeK ?_
  | with_reducible refine SL.go_for ?_
  | with_reducible refine SL.go_iList ?_
  | with_reducible refine SL.go_iTup ?_
  | with_reducible refine SL.go_iRng1 ?_
  | with_reducible refine SL.go_iRng2 ?_
  | with_reducible refine SL.go_lc ?_
  | with_reducible refine SL.go_yes ?_
  | with_reducible refine SL.go_chain ?_
  | with_reducible refine SL.go_j ?_
  | with_reducible refine SL.go_js0 ?_
  | with_reducible refine SL.go_js ?_
  | with_reducible refine SL.go_fmt ?_
  | with_reducible refine SL.go_m1 ?_
  | with_reducible refine SL.go_ltS ?_
  | with_reducible refine SL.go_leS ?_
  | with_reducible refine SL.go_strS ?_
  | with_reducible refine SL.go_iStr ?_
  | with_reducible refine SL.go_iZip ?_
  | with_reducible refine SL.go_iKeys ?_
  | with_reducible refine SL.go_dget ?_
  | with_reducible refine SL.go_dc ?_)
local macro_rules | `(tactic| walk_at "go") => `(tactic| repeat walk_at "s0")
local macro_rules | `(tactic| walk_at "nw") => `(tactic| (refine ⟨SL.szL (by simp), fun p n => ?_⟩; generalize q : upd _ p _ = H'; have e := SL.Same.new' n q; have h := SL.at_new q; clear q))
local macro_rules | `(tactic| walk_at "nw0") => `(tactic| (intro p n; generalize q : upd _ p _ = H'; have e := SL.Same.new' n q; have h := SL.at_new q; clear q))
section
variable {K : PySem.W.Frag} {a : Cl} {vs : List V} {H : Hp} {Q : VK} {E : XK}
abbrev ends (Q : VK) : Ends := { nx := fun _ H' => Q .non H', rt := Q }

theorem read_is_integer (F : KF K a) (h : sp_is_integer K a vs H Q E) : rd_is_integer K a E (ends Q) (start nm_is_integer vs) H := by
  obtain ⟨v, t, rfl, hk, q⟩ := h
  unfold rd_is_integer
  walk_at "go"
  cases t <;> first
    | (refine isi_int (b := false) F hk rfl ?_; walk_at "go"; exact q)
    | (refine isi_int (b := true) F hk rfl ?_; walk_at "go"; first | (refine isi_bool (b := false) F hk rfl ?_; walk_at "go"; exact q) | (refine isi_bool (b := true) F hk rfl ?_; walk_at "go"; exact q))

theorem read_is_fraction (F : KF K a) (hR : a.C_Ratio ∈ a.cls) (h : sp_is_fraction K a vs H Q E) : rd_is_fraction K a E (ends Q) (start nm_is_fraction vs) H := by
  obtain ⟨v, t, rfl, hk, q⟩ := h
  unfold rd_is_fraction
  walk_at "go"
  refine ⟨v, t, rfl, hk, ?_⟩
  walk_at "go"
  refine go_d (fun e => ?_) (fun e => ?_)
  · subst e; exact q
  · walk_at "go"
    refine isi_cls F hR hk ?_
    rw [decide_eq_false e, Bool.false_or] at q
    exact q

theorem read_shared_factor (h : sp_shared_factor K a vs H Q E) : rd_shared_factor K a E (ends Q) (start nm_shared_factor vs) H := by
  obtain ⟨n, d, rfl, q⟩ := h
  unfold rd_shared_factor
  walk_at "go"
  refine ⟨fun m σ H' => ∃ x y : Int, σ = [some (.int n), some (.int d), some (.int x), some (.int y)] ∧ H' = H ∧ 0 ≤ x ∧ 0 ≤ y ∧ gI x y = gI n d ∧ m = y.toNat, ⟨_, _, _, rfl, rfl, by split <;> omega, by split <;> omega, gI_abs n d, rfl⟩, ?_⟩
  rintro m σ H' ⟨x, y, rfl, rfl, hx, hy, hg, rfl⟩
  walk_at "go"
  refine go_d (fun hy0 => ?_) (fun hy0 => ?_)
  · refine ⟨fun σ' H'' => ∃ m', m' < y.toNat ∧ ∃ x y : Int, σ' = [some (.int n), some (.int d), some (.int x), some (.int y)] ∧ H'' = H' ∧ 0 ≤ x ∧ 0 ≤ y ∧ gI x y = gI n d ∧ m' = y.toNat, fun _ _ h => h, ?_⟩
    walk_at "go"
    refine go_I (by omega) ?_
    walk_at "go"
    have e : x.fmod y = x % y := Int.fmod_eq_emod_of_nonneg x (by omega)
    have l1 := Int.emod_nonneg x (show y ≠ 0 by omega)
    have l2 := Int.emod_lt_of_pos x hy0
    refine ⟨(x.fmod y).toNat, by omega, y, x.fmod y, rfl, rfl, hy, by omega, ?_, rfl⟩
    rw [gcd_turn hx hy0]
    exact hg
  · walk_at "go"
    have e : y = 0 := by omega
    subst e
    rw [gI_zero hx] at hg
    rw [hg]
    exact q

/-! ### Ratio(..) -/
theorem init_run {G : Addr → Hp → Prop} {x dx : Addr} {n d : Int} (hd : 0 < d) (hb : Bd 8000 d) (h : ∀ p H', L2.Same H H' → RatAt a H' p (nm n d) (dn n d) → G p H') (hx : H x = none) (hdx : H dx = none) (hne : dx ≠ x) :
    sp_Ratio___init__ K a [.ref x, .int n, .int d] (upd (upd H dx (.own x)) x (.ins a.C_Ratio dx [])) (fun v H2 => v = .non ∧ G x H2) E := by
  refine ⟨x, dx, n, d, rfl, upd_same, hd, hb, fun H' k r => ⟨rfl, h x H' (fun b o e => ?_) r⟩⟩
  refine k b o (ne_of_none e hx) ?_
  rw [upd_ne (ne_of_none e hx), upd_ne (ne_of_none e hdx)]
  exact e
theorem mk_ratio {G : Addr → Hp → Prop} {n d : Int} (hd : 0 < d) (hb : Bd 8000 d) (h : ∀ p H', L2.Same H H' → RatAt a H' p (nm n d) (dn n d) → G p H') :
    ∀ x dx, H x = none → H dx = none → dx ≠ x → sp_Ratio___init__ K a (.ref x :: ([.int n, .int d] ++ [])) (upd (upd H dx (.own x)) x (.ins a.C_Ratio dx [])) (fun v H2 => v = .non ∧ G x H2) E :=
  fun x dx hx hdx hne => init_run hd hb h hx hdx hne
theorem mk_ratio1 {G : Addr → Hp → Prop} {n : Int} (h : ∀ p H', L2.Same H H' → RatAt a H' p n 1 → G p H') :
    ∀ x dx, H x = none → H dx = none → dx ≠ x → sp_Ratio___init__ K a (.ref x :: ([.int n] ++ [.int 1])) (upd (upd H dx (.own x)) x (.ins a.C_Ratio dx [])) (fun v H2 => v = .non ∧ G x H2) E :=
  fun x dx hx hdx hne => init_run (n := n) (d := 1) (by decide) (Bd.small (by decide) (by decide) (by decide)) (fun p H' e r => h p H' e (by
    have := low_self (n := n) (d := 1) (by decide) (by simp)
    rw [this.1, this.2] at r
    exact r)) hx hdx hne
theorem read_Ratio___init__ (F : KF K a) (h : sp_Ratio___init__ K a vs H Q E) : rd_Ratio___init__ K a E (ends Q) (start nm_Ratio___init__ vs) H := by
  obtain ⟨p, dx, n, d, rfl, hp, hd, hb, k⟩ := h
  unfold rd_Ratio___init__
  walk_at "go"
  refine ⟨.int n, .int, rfl, .int n, ?_⟩
  walk_at "go"
  refine go_dnT rfl ?_
  walk_at "go"
  refine ⟨.int d, .int, rfl, .int d, ?_⟩
  walk_at "go"
  refine go_dnT rfl ?_
  walk_at "go"
  refine go_dF (by omega) ?_
  walk_at "go"
  refine ⟨n, d, rfl, ?_⟩
  have g0 := gI_pos (n := n) (d := d) (by omega)
  have c : ∀ x, CDivX x (gI n d) := fun x => ⟨by omega, Nat.lt_of_lt_of_le (PySem.Flt.log2_lt_of (by decide) (Nat.lt_of_le_of_lt (gI_le hd) hb)) (by decide)⟩
  walk_at "go"
  refine go_I (c n) ?_
  walk_at "go"
  refine go_sfldE hp (by decide) ?_
  walk_at "go"
  refine go_I (c d) ?_
  walk_at "go"
  refine go_sfldE upd_same (by show 1 < 1000; decide) ?_
  walk_at "go"
  rw [upd_upd, put_tb, Int.fdiv_eq_ediv_of_nonneg n (by omega), Int.fdiv_eq_ediv_of_nonneg d (by omega)]
  exact k _ (fun b o ne e => by rw [upd_ne ne]; exact e) ⟨dx, upd_same⟩
theorem read_as_ratio (F : KF K a) (hR : a.C_Ratio ∈ a.cls) (h : sp_as_ratio K a vs H Q E) : rd_as_ratio K a E (ends Q) (start nm_as_ratio vs) H := by
  obtain ⟨v, n, d, rfl, hf, k⟩ := h
  unfold rd_as_ratio
  walk_at "go"
  rcases hf with ⟨rfl, rfl⟩ | ⟨p, rfl, hp⟩
  · refine isi_cls F hR (.int n) ?_
    walk_at "go"
    refine go_dF (by simp) ?_
    walk_at "go"
    exact mk_ratio1 k
  · refine isi_cls F hR (hp.kd hR) ?_
    walk_at "go"
    refine go_dT rfl ?_
    walk_at "go"
    exact k p H (L2.Same.refl H) hp
theorem Bd.cmul {i j : Int} {x y : Nat} (h : Bd x i) (h' : Bd y j) (hx : 0 < x := by decide) (hy : 0 < y := by decide) (hs : x + y ≤ 1000000 := by decide) : IntMulOk i j := CMulW.ok (wide_mul h h' hx hy hs)
theorem read_compared (h : sp_compared K a vs H Q E) : rd_compared K a E (ends Q) (start nm_compared vs) H := by
  obtain ⟨p, q, n1, d1, n2, d2, rfl, hp, hq, b1, b2, b3, b4, k⟩ := h
  unfold rd_compared
  walk_at "go"
  refine go_top hp ?_
  walk_at "go"
  refine go_bot hq ?_
  refine go_I (b1.cmul b4) ?_
  walk_at "go"
  refine go_top hq ?_
  walk_at "go"
  refine go_bot hp ?_
  refine go_I (b3.cmul b2) ?_
  walk_at "go"
  unfold cmpI at k
  refine go_d (fun e => ?_) (fun e => ?_)
  · walk_at "go"
    rw [if_pos e] at k
    exact k
  · rw [if_neg e] at k
    walk_at "go"
    refine go_d (fun e => ?_) (fun e => ?_)
    · rw [if_pos e] at k
      walk_at "go"
      exact k
    · rw [if_neg e] at k
      walk_at "go"
      exact k
/-- the first rows of an operator: is_fraction, as_ratio -/
theorem frac_kd {v : V} {n d : Int} (hR : a.C_Ratio ∈ a.cls) (h : Frac a H v n d) : ∃ t, Kd K a H v t ∧ (t = .int ∨ t = .cls a.C_Ratio) := by
  rcases h with ⟨rfl, rfl⟩ | ⟨p, rfl, hp⟩
  · exact ⟨.int, .int n, .inl rfl⟩
  · exact ⟨_, hp.kd hR, .inr rfl⟩
theorem is_frac {v : V} {n d : Int} (hR : a.C_Ratio ∈ a.cls) (h : Frac a H v n d) (q : Q (.bl true) H) : sp_is_fraction K a ([v] ++ []) H Q E := by
  obtain ⟨t, hk, ht⟩ := frac_kd (K := K) hR h
  refine ⟨v, t, rfl, hk, ?_⟩
  rcases ht with rfl | rfl
  · exact q
  · simpa using q
theorem read_bin {f g : Int → Int → Int → Int → Int} {tn td : TE} (hR : a.C_Ratio ∈ a.cls) (h : spBin a f g vs H Q E)
    (hn : ∀ (σ : L2.St) (p q : Addr) (n1 d1 n2 d2 : Int) (H : Hp) (R : VK), σ = [some (.ref p), σ[1]!, some (.ref q)] → RatAt a H p n1 d1 → RatAt a H q n2 d2 → Two n1 d1 n2 d2 → R (.int (f n1 d1 n2 d2)) H → tn σ H R)
    (hd : ∀ (σ : L2.St) (p q : Addr) (n1 d1 n2 d2 : Int) (H : Hp) (R : VK), σ = [some (.ref p), σ[1]!, some (.ref q)] → RatAt a H p n1 d1 → RatAt a H q n2 d2 → Two n1 d1 n2 d2 → R (.int (g n1 d1 n2 d2)) H → td σ H R)
    (hg : ∀ n1 d1 n2 d2, Two n1 d1 n2 d2 → 0 < g n1 d1 n2 d2 ∧ Bd 8000 (g n1 d1 n2 d2)) :
    (tSeq (tIfS (tNot (tB (tCall (sp_is_fraction K a) [] E (tCons (tVar 1) tNil)))) tNever tNext) (tSeq (tAsg (tCall (sp_as_ratio K a) [] E (tCons (tVar 1) tNil)) (gName 2)) (tRet (tMake a.C_Ratio (sp_Ratio___init__ K a) [] E (tCons tn (tCons td tNil)))))) (ends Q) (start ["self", "other", "by"] vs) H := by
  obtain ⟨p, v, n1, d1, n2, d2, rfl, hp, hv, two, k⟩ := h
  walk_at "go"
  refine is_frac hR hv ?_
  walk_at "go"
  refine ⟨v, n2, d2, rfl, hv, fun q H1 e1 hq => ?_⟩
  walk_at "go"
  refine hn _ p q n1 d1 n2 d2 H1 _ rfl (hp.up e1) hq two ?_
  walk_at "go"
  refine hd _ p q n1 d1 n2 d2 H1 _ rfl (hp.up e1) hq two ?_
  walk_at "go"
  exact mk_ratio (hg n1 d1 n2 d2 two).1 (hg n1 d1 n2 d2 two).2 fun r H2 e2 hr => k r H2 (L2.Same.trans e1 e2) hr

theorem Two.prod {n1 d1 n2 d2 : Int} (t : Two n1 d1 n2 d2) : 0 < d1 * d2 ∧ Bd 8000 (d1 * d2) := ⟨Int.mul_pos t.p1 t.p2, (t.b2.mul t.b4).mono (by decide)⟩
theorem read_Ratio___add__ (hR : a.C_Ratio ∈ a.cls) (h : sp_Ratio___add__ K a vs H Q E) : rd_Ratio___add__ K a E (ends Q) (start nm_Ratio___add__ vs) H := by
  refine read_bin hR h ?_ ?_ (fun _ _ _ _ t => t.prod)
  · intro σ p q n1 d1 n2 d2 H R e hp hq t k
    rw [e]
    walk_at "go"
    refine go_top hp ?_
    walk_at "go"
    refine go_bot hq (go_I (t.b1.cmul t.b4) ?_)
    walk_at "go"
    refine go_top hq ?_
    walk_at "go"
    refine go_bot hp (go_I (t.b3.cmul t.b2) ?_)
    walk_at "go"
    exact k
  · intro σ p q n1 d1 n2 d2 H R e hp hq t k
    rw [e]
    walk_at "go"
    refine go_bot hp ?_
    walk_at "go"
    refine go_bot hq (go_I (t.b2.cmul t.b4) ?_)
    exact k
theorem read_Ratio___sub__ (hR : a.C_Ratio ∈ a.cls) (h : sp_Ratio___sub__ K a vs H Q E) : rd_Ratio___sub__ K a E (ends Q) (start nm_Ratio___sub__ vs) H := by
  refine read_bin hR h ?_ ?_ (fun _ _ _ _ t => t.prod)
  · intro σ p q n1 d1 n2 d2 H R e hp hq t k
    rw [e]
    walk_at "go"
    refine go_top hp ?_
    walk_at "go"
    refine go_bot hq (go_I (t.b1.cmul t.b4) ?_)
    walk_at "go"
    refine go_top hq ?_
    walk_at "go"
    refine go_bot hp (go_I (t.b3.cmul t.b2) ?_)
    walk_at "go"
    exact k
  · intro σ p q n1 d1 n2 d2 H R e hp hq t k
    rw [e]
    walk_at "go"
    refine go_bot hp ?_
    walk_at "go"
    refine go_bot hq (go_I (t.b2.cmul t.b4) ?_)
    exact k
theorem read_Ratio___mul__ (hR : a.C_Ratio ∈ a.cls) (h : sp_Ratio___mul__ K a vs H Q E) : rd_Ratio___mul__ K a E (ends Q) (start nm_Ratio___mul__ vs) H := by
  refine read_bin hR h ?_ ?_ (fun _ _ _ _ t => t.prod)
  · intro σ p q n1 d1 n2 d2 H R e hp hq t k
    rw [e]
    walk_at "go"
    refine go_top hp ?_
    walk_at "go"
    refine go_top hq (go_I (t.b1.cmul t.b3) ?_)
    exact k
  · intro σ p q n1 d1 n2 d2 H R e hp hq t k
    rw [e]
    walk_at "go"
    refine go_bot hp ?_
    walk_at "go"
    refine go_bot hq (go_I (t.b2.cmul t.b4) ?_)
    exact k
theorem Two.symm {n1 d1 n2 d2 : Int} (t : Two n1 d1 n2 d2) : Two n2 d2 n1 d1 := ⟨t.p2, t.p1, t.b3, t.b4, t.b1, t.b2⟩
theorem go_ratR {p q : Addr} {n1 d1 n2 d2 : Int} {sp : Sp} (hp : RatAt a H p n1 d1) (hq : RatAt a H q n2 d2) (h : sp [.ref p, .ref q] H Q E) : rOwn2 a.C_Ratio sp E (.ref p) (.ref q) H Q := let ⟨_, e1⟩ := hp; let ⟨_, e2⟩ := hq; go_own2 e1 e2 h
theorem go_ratI {p : Addr} {n1 d1 i : Int} {sp : Sp} (hp : RatAt a H p n1 d1) (h : sp [.ref p, .int i] H Q E) : rOwnI a.C_Ratio sp E (.ref p) (.int i) H Q := let ⟨_, e1⟩ := hp; go_ownI e1 h
theorem go_ratF {p : Addr} {n1 d1 i : Int} {sp : Sp} (hp : RatAt a H p n1 d1) (h : sp [.ref p, .int i] H Q E) : rRefl a.C_Ratio sp E (.int i) (.ref p) H Q := let ⟨_, e1⟩ := hp; go_refl e1 h
theorem go_ratU {p : Addr} {n1 d1 : Int} {sp : Sp} (hp : RatAt a H p n1 d1) (h : sp [.ref p] H Q E) : rOwnU a.C_Ratio sp E (.ref p) H Q := let ⟨_, e1⟩ := hp; go_ownU e1 h
theorem read_rev {f g f' g' : Int → Int → Int → Int → Int} (hR : a.C_Ratio ∈ a.cls) (h : spBin a f' g' vs H Q E) (hf : ∀ n1 d1 n2 d2, f' n1 d1 n2 d2 = f n2 d2 n1 d1) (hg : ∀ n1 d1 n2 d2, g' n1 d1 n2 d2 = g n2 d2 n1 d1) :
    (tSeq (tIfS (tNot (tB (tCall (sp_is_fraction K a) [] E (tCons (tVar 1) tNil)))) tNever tNext) (tRet (tOp (rOwn2 a.C_Ratio (spBin a f g) E) (tCall (sp_as_ratio K a) [] E (tCons (tVar 1) tNil)) (tVar 0)))) (ends Q) (start ["self", "other"] vs) H := by
  obtain ⟨p, v, n1, d1, n2, d2, rfl, hp, hv, two, k⟩ := h
  walk_at "go"
  refine is_frac hR hv ?_
  walk_at "go"
  refine ⟨v, n2, d2, rfl, hv, fun q H1 e1 hq => ?_⟩
  walk_at "go"
  refine go_ratR hq (hp.up e1) ?_
  refine ⟨q, .ref p, n2, d2, n1, d1, rfl, hq, .rat (hp.up e1), two.symm, fun r H2 e2 hr => ?_⟩
  rw [← hf, ← hg] at hr
  exact k r H2 (L2.Same.trans e1 e2) hr
theorem read_Ratio___radd__ (hR : a.C_Ratio ∈ a.cls) (h : sp_Ratio___radd__ K a vs H Q E) : rd_Ratio___radd__ K a E (ends Q) (start nm_Ratio___radd__ vs) H := read_rev hR h (fun _ _ _ _ => rfl) (fun _ _ _ _ => rfl)
theorem read_Ratio___rsub__ (hR : a.C_Ratio ∈ a.cls) (h : sp_Ratio___rsub__ K a vs H Q E) : rd_Ratio___rsub__ K a E (ends Q) (start nm_Ratio___rsub__ vs) H := read_rev hR h (fun _ _ _ _ => rfl) (fun _ _ _ _ => rfl)
theorem read_Ratio___rmul__ (hR : a.C_Ratio ∈ a.cls) (h : sp_Ratio___rmul__ K a vs H Q E) : rd_Ratio___rmul__ K a E (ends Q) (start nm_Ratio___rmul__ vs) H := read_rev hR h (fun _ _ _ _ => rfl) (fun _ _ _ _ => rfl)
theorem read_Ratio_compared (hR : a.C_Ratio ∈ a.cls) (h : sp_Ratio_compared K a vs H Q E) : rd_Ratio_compared K a E (ends Q) (start nm_Ratio_compared vs) H := by
  obtain ⟨p, v, n1, d1, n2, d2, rfl, hp, hv, two, k⟩ := h
  unfold rd_Ratio_compared
  walk_at "go"
  refine is_frac hR hv ?_
  walk_at "go"
  refine ⟨v, n2, d2, rfl, hv, fun q H1 e1 hq => ?_⟩
  walk_at "go"
  exact ⟨p, q, n1, d1, n2, d2, rfl, hp.up e1, hq, two.b1, two.b2, two.b3, two.b4, k H1 e1⟩
theorem read_Ratio___neg__ (h : sp_Ratio___neg__ K a vs H Q E) : rd_Ratio___neg__ K a E (ends Q) (start nm_Ratio___neg__ vs) H := by
  obtain ⟨p, n, d, rfl, hp, hd, hb, k⟩ := h
  unfold rd_Ratio___neg__
  walk_at "go"
  refine go_top hp ?_
  walk_at "go"
  refine go_bot hp ?_
  walk_at "go"
  exact mk_ratio hd hb k
theorem read_Ratio___eq__ (hR : a.C_Ratio ∈ a.cls) (h : sp_Ratio___eq__ K a vs H Q E) : rd_Ratio___eq__ K a E (ends Q) (start nm_Ratio___eq__ vs) H := by
  obtain ⟨p, v, n, d, t, rfl, hp, hk, k⟩ := h
  unfold rd_Ratio___eq__
  walk_at "go"
  rcases k with ⟨h1, h2, k⟩ | ⟨n2, d2, hv, k⟩
  · refine ⟨v, t, rfl, hk, ?_⟩
    rw [decide_eq_false h1, decide_eq_false h2]
    walk_at "go"
    refine iteT ?_
    walk_at "go"
    exact k
  · refine is_frac hR hv ?_
    walk_at "go"
    refine ⟨v, n2, d2, rfl, hv, fun q H1 e1 hq => ?_⟩
    walk_at "go"
    refine go_top (hp.up e1) ?_
    walk_at "go"
    refine go_top hq ?_
    walk_at "go"
    have k' := k H1 e1
    refine go_d (fun e => ?_) (fun e => ?_)
    · walk_at "go"
      refine go_bot (hp.up e1) ?_
      walk_at "go"
      refine go_bot hq ?_
      walk_at "go"
      rw [decide_eq_true e] at k'
      exact k'
    · rw [decide_eq_false e] at k'
      exact k'
theorem sgn_pos {n2 d1 : Int} (h : n2 ≠ 0) (hd : 0 < d1) : 0 < sgn n2 * d1 * n2 := by
  unfold sgn
  split
  · rw [Int.one_mul]; exact Int.mul_pos hd (by omega)
  · have : 0 < d1 * (-n2) := Int.mul_pos hd (by omega)
    have e : -1 * d1 * n2 = d1 * (-n2) := by rw [Int.mul_neg, Int.neg_mul, Int.one_mul, Int.neg_mul]
    omega
theorem sgn_bd (n : Int) : Bd 64 (sgn n) := by
  unfold sgn
  split <;> exact Bd.small (by decide) (by decide) (by decide)
theorem read_Ratio_over (hR : a.C_Ratio ∈ a.cls) (h : sp_Ratio_over K a vs H Q E) : rd_Ratio_over K a E (ends Q) (start nm_Ratio_over vs) H := by
  obtain ⟨p, v, n1, d1, n2, d2, rfl, hp, hv, two, hn, k⟩ := h
  unfold rd_Ratio_over
  walk_at "go"
  refine is_frac hR hv ?_
  walk_at "go"
  refine ⟨v, n2, d2, rfl, hv, fun q0 H0 e0 hq0 => ?_⟩
  walk_at "go"
  refine go_top hq0 ?_
  walk_at "go"
  refine go_dF hn ?_
  walk_at "go"
  refine ⟨v, n2, d2, rfl, hv.up e0, fun q H1 e1 hq => ?_⟩
  have e01 := L2.Same.trans e0 e1
  have hp1 := hp.up e01
  walk_at "go"
  refine go_top hq ?_
  walk_at "go"
  have key : ∀ (R : V → Hp → Prop), R (.int (sgn n2)) H1 → (if decide (0 < n2) = true then tC (.int 1) ([some (.ref p), some v, some (.ref q), none] : L2.St) H1 R else tUn (rU fun i => .int (-i)) (tC (.int 1)) ([some (.ref p), some v, some (.ref q), none] : L2.St) H1 R) := fun R r => by
    unfold sgn at r
    refine go_d (fun e => ?_) (fun e => ?_)
    · rw [if_pos e] at r; exact r
    · rw [if_neg e] at r
      walk_at "go"
      exact r
  refine key _ ?_
  walk_at "go"
  refine go_top hp1 (go_I ((sgn_bd n2).cmul two.b1) ?_)
  walk_at "go"
  refine go_bot hq (go_I (((sgn_bd n2).mul two.b1).cmul two.b4) ?_)
  walk_at "go"
  refine go_bot hp1 (go_I ((sgn_bd n2).cmul two.b2) ?_)
  walk_at "go"
  refine go_top hq (go_I (((sgn_bd n2).mul two.b2).cmul two.b3) ?_)
  walk_at "go"
  exact mk_ratio (sgn_pos hn two.p1) ((((sgn_bd n2).mul two.b2).mul two.b3).mono (by decide)) fun r H2 e2 hr => k r H2 (L2.Same.trans e01 e2) hr
end
end SL

set_option Elab.async false
set_option linter.all false
set_option maxRecDepth 100000
set_option maxHeartbeats 4000000
namespace SL
open PySem L2 PySem.Spec PyProof.Rows

/-! ### plain: texts of forms -/
theorem str_ext {x y : Str} (h : x.cps.toList = y.cps.toList) : x = y := by
  cases x; cases y
  congr
  exact Array.ext' h
theorem cps_app (x y : Str) : (x ++ y).cps.toList = x.cps.toList ++ y.cps.toList := Array.toList_append
theorem str_nil_app (z : Str) : Str.empty ++ z = z := str_ext (by rw [cps_app]; rfl)
theorem str_nil_app' (z : Str) : Str.ofString "" ++ z = z := str_ext (by rw [cps_app]; rfl)
theorem len_app (x y : Str) : (x ++ y).length = x.length + y.length := Array.size_append
def nmS (c : Nat) : Str := ⟨#[c]⟩
def ab (i : Int) : Int := if i < 0 then -i else i
theorem ab_nonneg (i : Int) : 0 ≤ ab i := by unfold ab; split <;> omega
theorem ab_natAbs (i : Int) : (ab i).natAbs = i.natAbs := by unfold ab; split <;> omega
def ptxt (n : Int) (z : Str) : Str := if ab n = 1 then z else Str.ofString (toString (ab n)) ++ Str.ofString " " ++ z
abbrev Tm := Nat × Int
def items (c : Int) (ts : List Tm) : List (Bool × Str) := (if c ≠ 0 ∨ ts = [] then [(decide (c < 0), Str.ofString (toString (ab c)))] else []) ++ ts.map fun t => (decide (t.2 < 0), ptxt t.2 (nmS t.1))
def glue1 (acc : Str) (p : Bool × Str) : Str := acc ++ (if p.1 = true then Str.ofString " - " else Str.ofString " + ") ++ p.2
def glue : List (Bool × Str) → Str
  | [] => Str.empty
  | p :: r => r.foldl glue1 (if p.1 = true then Str.ofString "-" ++ p.2 else p.2)
def formText (c : Int) (ts : List Tm) : Str := glue (items c ts)
theorem items_ne (c : Int) (ts : List Tm) : ∃ p r, items c ts = p :: r := by
  unfold items
  by_cases h : c ≠ 0 ∨ ts = []
  · rw [if_pos h]; exact ⟨_, _, rfl⟩
  · rw [if_neg h]
    cases ts with
    | nil => exact absurd (.inr rfl) h
    | cons t r => exact ⟨_, _, rfl⟩
theorem two_ten : (2 : Int) ^ 1900 < 10 ^ 600 := by decide +kernel
theorem txt_len {i : Int} (h : Bd 1900 i) : (Str.ofString (toString (ab i))).length ≤ 600 := by
  refine PyProof.Rows.toString_length_le (ab_nonneg i) (by decide) ?_
  unfold Bd at h
  have h0 := ab_nonneg i
  have h1 := ab_natAbs i
  have h3 : ((ab i).natAbs : Int) = ab i := Int.natAbs_of_nonneg h0
  have h4 : ((ab i).natAbs : Int) < ((2 ^ 1900 : Nat) : Int) := by rw [h1]; exact Int.ofNat_lt.mpr h
  have h5 : ((2 ^ 1900 : Nat) : Int) = (2 : Int) ^ 1900 := by rw [Int.natCast_pow]; rfl
  have := two_ten
  omega
theorem ab_log {i : Int} (h : Bd 1900 i) : (ab i).natAbs.log2 < 1920 := by
  rw [ab_natAbs]
  exact Nat.lt_of_lt_of_le (PySem.Flt.log2_lt_of (by decide) h) (by decide)
theorem ptxt_len {n : Int} {z : Str} (h : Bd 1900 n) (hz : z.length ≤ 10) : (ptxt n z).length ≤ 620 := by
  unfold ptxt
  split
  · omega
  · rw [len_app, len_app]
    have := txt_len h
    have e : (Str.ofString " ").length = 1 := by decide +kernel
    omega
/-- well-formed terms -/
structure WF (ts : List Tm) : Prop where
  srt : ts.Pairwise fun x y => x.1 < y.1
  rng : ∀ t ∈ ts, 97 ≤ t.1 ∧ t.1 ≤ 122 ∧ t.2 ≠ 0
theorem WF.tail {t : Tm} {ts : List Tm} (h : WF (t :: ts)) : WF ts := ⟨(List.pairwise_cons.mp h.srt).2, fun u hu => h.rng u (List.mem_cons_of_mem _ hu)⟩
theorem rise_len : ∀ (ts : List Tm) (lo hi : Nat), ts.Pairwise (fun x y => x.1 < y.1) → (∀ t ∈ ts, lo ≤ t.1 ∧ t.1 < hi) → lo ≤ hi → ts.length ≤ hi - lo
  | [], _, _, _, _, _ => Nat.zero_le _
  | t :: r, lo, hi, hp, hr, hl => by
    have h1 := hr t (List.mem_cons_self ..)
    have h2 := List.pairwise_cons.mp hp
    have ih := rise_len r (t.1 + 1) hi h2.2 (fun u hu => ⟨h2.1 u hu, (hr u (List.mem_cons_of_mem _ hu)).2⟩) (by omega)
    rw [List.length_cons]
    omega
theorem WF.len {ts : List Tm} (h : WF ts) : ts.length ≤ 26 := rise_len ts 97 123 h.srt (fun t ht => ⟨(h.rng t ht).1, by have := (h.rng t ht).2.1; omega⟩) (by decide)
theorem items_len {ts : List Tm} (h : WF ts) (c : Int) : (items c ts).length ≤ 27 := by
  unfold items
  rw [List.length_append, List.length_map]
  have := h.len
  split <;> simp <;> omega
theorem items_txt {ts : List Tm} {c : Int} (hc : Bd 1900 c) (hb : ∀ t ∈ ts, Bd 1900 t.2) : ∀ p ∈ items c ts, p.2.length ≤ 620 := by
  intro p hp
  unfold items at hp
  rcases List.mem_append.mp hp with hp | hp
  · split at hp
    · cases List.mem_singleton.mp hp
      have := txt_len hc
      show (Str.ofString (toString (ab c))).length ≤ 620
      omega
    · cases hp
  · obtain ⟨t, ht, rfl⟩ := List.mem_map.mp hp
    exact ptxt_len (hb t ht) (by show (nmS t.1).length ≤ 10; exact (by decide : 1 ≤ 10))
theorem glue1_len (acc : Str) (p : Bool × Str) : (glue1 acc p).length = acc.length + 3 + p.2.length := by
  unfold glue1
  rw [len_app, len_app]
  have e1 : (Str.ofString " - ").length = 3 := by decide +kernel
  have e2 : (Str.ofString " + ").length = 3 := by decide +kernel
  split <;> omega
theorem fold_len : ∀ (r : List (Bool × Str)) (acc : Str), (∀ p ∈ r, p.2.length ≤ 620) → (r.foldl glue1 acc).length ≤ acc.length + r.length * 623
  | [], acc, _ => by simp
  | p :: r, acc, h => by
    have ih := fold_len r (glue1 acc p) fun q hq => h q (List.mem_cons_of_mem _ hq)
    rw [glue1_len] at ih
    have := h p (List.mem_cons_self ..)
    rw [List.foldl_cons, List.length_cons]
    omega
/-- sorted lists with the same members are one -/
theorem rise_perm : ∀ {xs ys : List Tm}, xs.Perm ys → xs.Pairwise (fun x y => x.1 < y.1) → ys.Pairwise (fun x y => x.1 < y.1) → xs = ys := by
  intro xs ys hp h1 h2
  exact hp.eq_of_pairwise (le := fun x y : Tm => x.1 < y.1) (fun a b _ _ h1 h2 => absurd h1 (by omega)) h1 h2
/-! ### terms and forms in the heap -/
inductive Prs (H : Hp) : List Addr → List Tm → Prop where
  | nil : Prs H [] []
  | cons {q : Addr} {c : Nat} {n : Int} {qs : List Addr} {ts : List Tm} (h : H q = some (.tup [.str (nmS c), .int n])) (r : Prs H qs ts) : Prs H (q :: qs) ((c, n) :: ts)
theorem Prs.imm {H H' : Hp} {qs : List Addr} {ts : List Tm} (e : Imm H H') (h : Prs H qs ts) : Prs H' qs ts := by
  induction h with
  | nil => exact .nil
  | cons h r ih => exact .cons (e.tup h) ih
theorem Prs.len {H : Hp} {qs : List Addr} {ts : List Tm} (h : Prs H qs ts) : qs.length = ts.length := by
  induction h with
  | nil => rfl
  | cons h r ih => rw [List.length_cons, List.length_cons, ih]
theorem Prs.get {H : Hp} {qs : List Addr} {ts : List Tm} (h : Prs H qs ts) : ∀ {i : Nat} {x : V}, (qs.map V.ref)[i]? = some x → ∃ q c n, x = .ref q ∧ ts[i]? = some (c, n) ∧ H q = some (.tup [.str (nmS c), .int n]) := by
  induction h with
  | nil => intro i x e; simp at e
  | @cons q c n qs ts h r ih =>
    intro i x e
    cases i with
    | zero => simp at e; exact ⟨q, c, n, e.symm, rfl, h⟩
    | succ i => simp only [List.map_cons, List.getElem?_cons_succ] at e; exact ih e
theorem Prs.snoc {H : Hp} {qs : List Addr} {ts : List Tm} {q : Addr} {c : Nat} {n : Int} (h : Prs H qs ts) (hq : H q = some (.tup [.str (nmS c), .int n])) : Prs H (qs ++ [q]) (ts ++ [(c, n)]) := by
  induction h with
  | nil => exact .cons hq .nil
  | cons h r ih => exact .cons h ih
theorem _root_.L2.SqT.imm {K : PySem.W.Frag} {H H' : Hp} {p : Addr} {xs : List V} (e : Imm H H') (h : SqT K H p xs) : SqT K H' p xs := by
  rcases h with (h | ⟨o, h⟩) | h
  · exact .inl (.inl (e.tup h))
  · exact .inl (.inr ⟨o, e p _ (fun _ z => by cases z) (fun _ z => by cases z) (fun _ z => by cases z) h⟩)
  · exact .inr h
def TermsAt (K : PySem.W.Frag) (H : Hp) (p : Addr) (ts : List Tm) : Prop := ∃ qs : List Addr, SqT K H p (qs.map V.ref) ∧ Prs H qs ts
theorem TermsAt.imm {K : PySem.W.Frag} {H H' : Hp} {p : Addr} {ts : List Tm} (e : Imm H H') (h : TermsAt K H p ts) : TermsAt K H' p ts := let ⟨qs, h1, h2⟩ := h; ⟨qs, h1.imm e, h2.imm e⟩
theorem TermsAt.up {K : PySem.W.Frag} {H H' : Hp} {p : Addr} {ts : List Tm} (e : L2.Same H H') (h : TermsAt K H p ts) : TermsAt K H' p ts := h.imm (.of e)
def nmsOf (ts : List Tm) : Str := ⟨(ts.map (·.1)).toArray⟩
def FormAt (K : PySem.W.Frag) (a : Cl) (H : Hp) (p : Addr) (c : Int) (ts : List Tm) : Prop := (∃ dx tp : Addr, H p = some (.ins a.C_Form dx [("constant", .int c), ("terms", .ref tp), ("names", .str (nmsOf ts))]) ∧ TermsAt K H tp ts) ∧ WF ts
theorem FormAt.imm {K : PySem.W.Frag} {a : Cl} {H H' : Hp} {p : Addr} {c : Int} {ts : List Tm} (e : Imm H H') (h : FormAt K a H p c ts) : FormAt K a H' p c ts := let ⟨⟨dx, tp, h1, h2⟩, h3⟩ := h; ⟨⟨dx, tp, e.ins h1, h2.imm e⟩, h3⟩
theorem FormAt.up {K : PySem.W.Frag} {a : Cl} {H H' : Hp} {p : Addr} {c : Int} {ts : List Tm} (e : L2.Same H H') (h : FormAt K a H p c ts) : FormAt K a H' p c ts := h.imm (.of e)
theorem FormAt.kd {K : PySem.W.Frag} {a : Cl} {H : Hp} {p : Addr} {c : Int} {ts : List Tm} (hF : a.C_Form ∈ a.cls) (h : FormAt K a H p c ts) : Kd K a H (.ref p) (.cls a.C_Form) := let ⟨⟨_, _, h1, _⟩, _⟩ := h; .ins h1 hF
/-- the empty tuple of the defaults -/
def EmpOk (K : PySem.W.Frag) (a : Cl) : Prop := ∀ H : Hp, SqT K H a.emp []
def low (c : Nat) : Bool := decide (97 ≤ c ∧ c ≤ 122)
/-! ### promises -/
def sp_are_small (K : PySem.W.Frag) (a : Cl) : Sp := fun vs H Q _ => ∃ v l m t, vs = [v, .int l, .int m] ∧ Kd K a H v t ∧ ((t.isStr = false ∧ Q (.bl false) H) ∨ ∃ z : Str, v = .str z ∧ z.length ≤ 1000 ∧ ∀ H', L2.Same H H' → Q (.bl (decide (l ≤ z.length ∧ z.length ≤ m) && z.cps.toList.all low)) H')
def sp_are_terms (K : PySem.W.Frag) (a : Cl) : Sp := fun vs H Q _ => ∃ p ts, vs = [.ref p] ∧ TermsAt K H p ts ∧ WF ts ∧ ∀ H', L2.Same H H' → Q (.bl true) H'
def sp_Form___init__ (K : PySem.W.Frag) (a : Cl) : Sp := fun vs H Q _ => ∃ p dx c tp ts, vs = [.ref p, .int c, .ref tp] ∧ H p = some (.ins a.C_Form dx []) ∧ TermsAt K H tp ts ∧ WF ts ∧
  ∀ H', (∀ b o, b ≠ p → H b = some o → H' b = some o) → FormAt K a H' p c ts → Q .non H'
/-- the terms of a dict -/
def kvs (ks : List Tm) : List (Key × V) := ks.map fun t => (.inr (nmS t.1), .int t.2)
def sp_form_of (K : PySem.W.Frag) (a : Cl) : Sp := fun vs H Q _ => ∃ c d ks, vs = [.int c, .ref d] ∧ H d = some (.dK (kvs ks)) ∧ (ks.map (·.1)).Nodup ∧ (∀ t ∈ ks, 97 ≤ t.1 ∧ t.1 ≤ 122) ∧ ks.length ≤ 60 ∧
  ∀ p ts H', L2.Same H H' → ts.Perm (ks.filter fun t => t.2 ≠ 0) → FormAt K a H' p c ts → Q (.ref p) H'
def sp_piece_text (K : PySem.W.Frag) (a : Cl) : Sp := fun vs H Q _ => ∃ n z, vs = [.int n, .str z] ∧ Bd 1900 n ∧ z.length ≤ 10 ∧ Q (.str (ptxt n z)) H
structure Sm (c : Int) (ts : List Tm) : Prop where
  c : Bd 1900 c
  ts : ∀ t ∈ ts, Bd 1900 t.2
def sp_text_of (K : PySem.W.Frag) (a : Cl) : Sp := fun vs H Q _ => ∃ p c ts, vs = [.ref p] ∧ FormAt K a H p c ts ∧ Sm c ts ∧ ∀ H', L2.Same H H' → Q (.str (formText c ts)) H'
def sp_Form___str__ (K : PySem.W.Frag) (a : Cl) : Sp := sp_text_of K a
def mulT (m : Int) (ts : List Tm) : List Tm := ts.map fun t => (t.1, t.2 * m)
def sp_Form___mul__ (K : PySem.W.Frag) (a : Cl) : Sp := fun vs H Q _ => ∃ p c ts m, vs = [.ref p, .int m] ∧ FormAt K a H p c ts ∧ Bd 8000 c ∧ (∀ t ∈ ts, Bd 8000 t.2) ∧ Bd 8000 m ∧ ∀ q H', L2.Same H H' → FormAt K a H' q (c * m) ((mulT m ts).filter fun t => t.2 ≠ 0) → Q (.ref q) H'
def sp_Form___neg__ (K : PySem.W.Frag) (a : Cl) : Sp := fun vs H Q _ => ∃ p c ts, vs = [.ref p] ∧ FormAt K a H p c ts ∧ Bd 8000 c ∧ (∀ t ∈ ts, Bd 8000 t.2) ∧ ∀ q H', L2.Same H H' → FormAt K a H' q (c * -1) (mulT (-1) ts) → Q (.ref q) H'
abbrev nm_are_small : List Str := ["value", "least", "most", "sign"]
def rd_are_small (K : PySem.W.Frag) (a : Cl) (E : XK) : TS := (tSeq (tIfS (tOr (tNot (tB (tCB (rIsi K) (tCons (tVar 0) (tCons (tC (.ty "str")) tNil))))) (tNot (tTest (tChain (rI0 fun i j => .bl (decide (i ≤ j))) (rI0 fun i j => .bl (decide (i ≤ j))) (tVar 1) (tCB (rLen K) (tCons (tVar 0) tNil)) (tVar 2))))) (tRet (tC (.bl false))) tNext)
  (tRet (tCB (rAll K) (tCons (tLc (iStr (tVar 0)) (gName 3) tYes (tChain rLeS rLeS (tC (.str "a")) (tVar 3) (tC (.str "z"))) [3]) tNil))))
abbrev nm_are_terms : List Str := ["value", "before", "pair"]
def rd_are_terms (K : PySem.W.Frag) (a : Cl) (E : XK) : TS := (tSeq (tIfS (tNot (tB (tCB (rIsi K) (tCons (tVar 0) (tCons (tC (.ty "tuple")) tNil))))) (tRet (tC (.bl false))) tNext)
  (tSeq (tAsg (tC (.str "")) (gName 1))
  (tSeq (tFor (iTup K (tVar 0)) (gName 2) (tSeq (tIfS (tOr (tNot (tB (tCB (rIsi K) (tCons (tVar 2) (tCons (tC (.ty "tuple")) tNil))))) (tOr (tTest (tOp rNe (tCB (rLen K) (tCons (tVar 2) tNil)) (tC (.int 2)))) (tOr (tNot (tB (tCall (sp_are_small K a) [] E (tCons (tOp (rIxT K) (tVar 2) (tC (.int 0))) (tCons (tC (.int 1)) (tCons (tC (.int 1)) tNil)))))) (tTest (tOp rLeS (tOp (rIxT K) (tVar 2) (tC (.int 0))) (tVar 1)))))) (tRet (tC (.bl false))) tNext)
  (tSeq (tIfS (tOr (tNot (tB (tCall (sp_is_integer K a) [] E (tCons (tOp (rIxT K) (tVar 2) (tC (.int 1))) tNil)))) (tTest (tOp rEq (tOp (rIxT K) (tVar 2) (tC (.int 1))) (tC (.int 0))))) (tRet (tC (.bl false))) tNext)
  (tAsg (tOp (rIxT K) (tVar 2) (tC (.int 0))) (gName 1)))))
  (tRet (tC (.bl true))))))
abbrev nm_form_of : List Str := ["constant", "numbers", "names", "name"]
def rd_form_of (K : PySem.W.Frag) (a : Cl) (E : XK) : TS := (tSeq (tAsg (tCB (rSortedS K) (tCons (tLockE (tLc (iKeys (tVar 1)) (gName 3) tYes (tCB rStrS (tCons (tVar 3) tNil)) [3])) tNil)) (gName 2))
  (tRet (tMake a.C_Form (sp_Form___init__ K a) [] E (tCons (tVar 0) (tCons (tCB (rTupOf K) (tCons (tLc (iList K (tVar 2)) (gName 3) (tTest (tOp rNe (tDGet (tVar 1) (tVar 3)) (tC (.int 0)))) (tTup (tCons (tVar 3) (tCons (tDGet (tVar 1) (tVar 3)) tNil))) [3]) tNil)) tNil)))))
abbrev nm_piece_text : List Str := ["times", "name"]
def rd_piece_text (K : PySem.W.Frag) (a : Cl) (E : XK) : TS := (tRet (tIf (tTest (tOp rEq (tCB rAbs (tCons (tVar 0) tNil)) (tC (.int 1)))) (tVar 1) (tJ [(tFmt (tCB rAbs (tCons (tVar 0) tNil))), (tC (.str " ")), (tFmt (tVar 1))])))
abbrev nm_text_of : List Str := ["form", "signs", "pieces", "name", "times", "found", "is_below", "piece"]
def rd_text_of (K : PySem.W.Frag) (a : Cl) (E : XK) : TS := (tSeq (tPar 1 2 (tCons (tLc (iTup K (tFldC a.C_Form (tVar 0) "terms")) (gTup K 2 (gCons (gName 3) (gCons (gName 4) gNil))) tYes (tOp (rI0 fun i j => .bl (decide (i < j))) (tVar 4) (tC (.int 0))) [3, 4]) (tCons (tLc (iTup K (tFldC a.C_Form (tVar 0) "terms")) (gTup K 2 (gCons (gName 3) (gCons (gName 4) gNil))) tYes (tCall (sp_piece_text K a) [] E0 (tCons (tVar 4) (tCons (tVar 3) tNil))) [3, 4]) tNil)))
  (tSeq (tIfS (tOr (tTest (tOp rNe (tFldC a.C_Form (tVar 0) "constant") (tC (.int 0)))) (tTest (tOp (rEqD K) (tVar 2) (tLst tNil)))) (tPar 1 2 (tCons (tOp rCat (tLst (tCons (tOp (rI0 fun i j => .bl (decide (i < j))) (tFldC a.C_Form (tVar 0) "constant") (tC (.int 0))) tNil)) (tVar 1)) (tCons (tOp rCat (tLst (tCons (tCB rStrI (tCons (tCB rAbs (tCons (tFldC a.C_Form (tVar 0) "constant") tNil)) tNil)) tNil)) (tVar 2)) tNil))) tNext)
  (tSeq (tAsg (tIf (tB (tOp (rIxL K) (tVar 1) (tC (.int 0)))) (tOp rAddS (tC (.str "-")) (tOp (rIxL K) (tVar 2) (tC (.int 0)))) (tOp (rIxL K) (tVar 2) (tC (.int 0)))) (gName 5))
  (tSeq (tFor (iZip K (tCons (tSl (rSlL K) (tVar 1) (tPart (tC (.int 1))) tNoPart) (tCons (tSl (rSlL K) (tVar 2) (tPart (tC (.int 1))) tNoPart) tNil))) (gTup K 2 (gCons (gName 6) (gCons (gName 7) gNil))) (tAsg (tOp rAddS (tOp rAddS (tVar 5) (tIf (tB (tVar 6)) (tC (.str " - ")) (tC (.str " + ")))) (tVar 7)) (gName 5)))
  (tRet (tVar 5))))))
abbrev nm_Form___init__ : List Str := ["self", "constant", "terms", "pair"]
def rd_Form___init__ (K : PySem.W.Frag) (a : Cl) (E : XK) : TS := (tSeq (tIfS (tNot (tB (tCall (sp_is_integer K a) [] E (tCons (tVar 1) tNil)))) tNever tNext)
  (tSeq (tIfS (tNot (tB (tCall (sp_are_terms K a) [] E (tCons (tVar 2) tNil)))) tNever tNext)
  (tSeq (sFldC a.C_Form (tVar 0) (tVar 1) "constant")
  (tSeq (sFldC a.C_Form (tVar 0) (tVar 2) "terms")
  (sFldC a.C_Form (tVar 0) (tM1 (rJoin K) (tC (.str "")) (tLc (iTup K (tVar 2)) (gName 3) tYes (tOp (rIxT K) (tVar 3) (tC (.int 0))) [3])) "names")))))
abbrev nm_Form___mul__ : List Str := ["self", "other", "name", "times"]
def rd_Form___mul__ (K : PySem.W.Frag) (a : Cl) (E : XK) : TS := (tSeq (tIfS (tNot (tB (tCall (sp_is_integer K a) [] E (tCons (tVar 1) tNil)))) tNever tNext)
  (tRet (tCall (sp_form_of K a) [] E (tCons (tOp (rI IntMulOk fun i j => .int (i * j)) (tFldC a.C_Form (tVar 0) "constant") (tVar 1)) (tCons (tDc (iTup K (tFldC a.C_Form (tVar 0) "terms")) (gTup K 2 (gCons (gName 2) (gCons (gName 3) gNil))) tYes (tVar 2) (tOp (rI IntMulOk fun i j => .int (i * j)) (tVar 3) (tVar 1)) [2, 3]) tNil)))))
abbrev nm_Form___neg__ : List Str := ["self"]
def rd_Form___neg__ (K : PySem.W.Frag) (a : Cl) (E : XK) : TS := (tRet (tOp (rOwnI a.C_Form (sp_Form___mul__ K a) E) (tVar 0) (tUn (rU fun i => .int (-i)) (tC (.int 1)))))
abbrev nm_Form___str__ : List Str := ["self"]
def rd_Form___str__ (K : PySem.W.Frag) (a : Cl) (E : XK) : TS := (tRet (tFmt (tCall (sp_text_of K a) [] E (tCons (tVar 0) tNil))))
local macro_rules | `(tactic| walk_at "up") => `(tactic| first | assumption | exact upd_same | (apply SL.RatAt.up; assumption; walk_at "up") | (apply SL.Same.at; assumption; walk_at "up"))
local macro_rules | `(tactic| walk_at "s0") => `(tactic| first
  | with_reducible refine SL.go_var (by with_unfolding_all rfl) ?_
  | with_reducible refine SL.go_seq ?_
  | with_reducible refine SL.go_next ?_
  | with_reducible refine SL.go_asg ?_
  | with_reducible refine SL.go_gname ?_
  | with_reducible refine SL.go_ret ?_
  | with_reducible refine SL.go_drop ?_
  | with_reducible refine SL.go_ifs ?_
  | with_reducible refine SL.go_c ?_
  | with_reducible refine SL.go_op ?_
  | with_reducible refine SL.go_un ?_
  | with_reducible refine SL.go_I0 ?_
  | with_reducible refine SL.go_U ?_
  | with_reducible refine SL.go_test ?_
  | with_reducible refine SL.go_tb ?_
  | with_reducible refine SL.go_bl ?_
  | with_reducible refine SL.go_eqI ?_
  | with_reducible refine SL.go_neI ?_
  | with_reducible refine SL.go_eqB ?_
  | with_reducible refine SL.go_neB ?_
  | with_reducible refine SL.go_eqS ?_
  | with_reducible refine SL.go_neS ?_
  | with_reducible refine SL.go_and ?_
  | with_reducible refine SL.go_or ?_
  | with_reducible refine SL.go_not ?_
  | with_reducible refine SL.go_andV ?_
  | with_reducible refine SL.go_orV ?_
  | with_reducible refine SL.go_notV ?_
  | with_reducible refine SL.go_if ?_
  | with_reducible refine SL.go_T ?_
  | with_reducible refine SL.go_F ?_
  | with_reducible refine SL.go_nT ?_
  | with_reducible refine SL.go_nF ?_
  | with_reducible refine SL.go_nil ?_
  | with_reducible refine SL.go_cons ?_
  | with_reducible refine SL.go_call ?_
  | with_reducible refine SL.go_cb ?_
  | with_reducible refine SL.go_par ?_
  | with_reducible refine SL.go_pair ?_
  | with_reducible refine SL.go_tup ?_
  | with_reducible refine SL.go_lst ?_
  | with_reducible refine SL.go_fldC ?_
  | with_reducible refine SL.go_sfld ?_
  | with_reducible refine SL.go_sub ?_
  | with_reducible refine SL.go_sl ?_
  | with_reducible refine SL.go_noPart ?_
  | with_reducible refine SL.go_part ?_
  | with_reducible refine SL.go_partE ?_
  | with_reducible refine SL.go_abs ?_
  | with_reducible refine SL.go_max2 ?_
  | with_reducible refine SL.go_min2 ?_
  | with_reducible refine SL.go_int ?_
  | with_reducible refine SL.go_intB ?_
  | with_reducible refine SL.go_bm ?_
  | with_reducible refine SL.go_meth ?_
  | with_reducible refine SL.go_methN ?_
  | with_reducible refine SL.go_make ?_
  | with_reducible refine SL.go_makeK ?_
  | with_reducible refine SL.go_for ?_
  | with_reducible refine SL.go_iList ?_
  | with_reducible refine SL.go_iTup ?_
  | with_reducible refine SL.go_iRng1 ?_
  | with_reducible refine SL.go_iRng2 ?_
  | with_reducible refine SL.go_lc ?_
  | with_reducible refine SL.go_yes ?_
  | with_reducible refine SL.go_chain ?_
  | with_reducible refine SL.go_j ?_
  | with_reducible refine SL.go_js0 ?_
  | with_reducible refine SL.go_js ?_
  | with_reducible refine SL.go_fmt ?_
  | with_reducible refine SL.go_m1 ?_
  | with_reducible refine SL.go_ltS ?_
  | with_reducible refine SL.go_leS ?_
  | with_reducible refine SL.go_strS ?_
  | with_reducible refine SL.go_iStr ?_
  | with_reducible refine SL.go_iZip ?_
  | with_reducible refine SL.go_iKeys ?_
  | with_reducible refine SL.go_dget ?_
  | with_reducible refine SL.go_dc ?_)
local macro_rules | `(tactic| walk_at "go") => `(tactic| repeat walk_at "s0")
local macro_rules | `(tactic| walk_at "nw") => `(tactic| (refine ⟨SL.szL (by simp), fun p n => ?_⟩; generalize q : upd _ p _ = H'; have e := SL.Same.new' n q; have h := SL.at_new q; clear q))
local macro_rules | `(tactic| walk_at "nw0") => `(tactic| (intro p n; generalize q : upd _ p _ = H'; have e := SL.Same.new' n q; have h := SL.at_new q; clear q))
section
variable {K : PySem.W.Frag} {a : Cl} {vs : List V} {H : Hp} {Q : VK} {E : XK}
theorem take_more {α : Type} {l : List α} {i : Nat} {x : α} (h : l[i]? = some x) : l.take (i + 1) = l.take i ++ [x] := by rw [List.take_add_one, h]; rfl
theorem lt_one (x y : Nat) : decide ((#[x] : Array Nat).toList < (#[y] : Array Nat).toList) = decide (x < y) := by
  show decide ([x] < [y]) = _
  by_cases h : x < y
  · rw [decide_eq_true h]; exact decide_eq_true (show [x] < [y] from List.Lex.rel h)
  · rw [decide_eq_false h]
    refine decide_eq_false fun q => ?_
    cases q with
    | rel q => exact h q
    | cons q => cases q
theorem read_are_small (F : KF K a) (h : sp_are_small K a vs H Q E) : rd_are_small K a E (ends Q) (start nm_are_small vs) H := by
  obtain ⟨v, l, m, t, rfl, hk, h⟩ := h
  unfold rd_are_small
  walk_at "go"
  rcases h with ⟨ht, q⟩ | ⟨z, rfl, hz, q⟩
  · refine isi_str F hk ht ?_
    walk_at "go"
    exact q
  · obtain rfl : t = .str := by cases hk; rfl
    refine isi_str (b := true) F hk rfl ?_
    walk_at "go"
    refine go_lenS (Nat.le_of_lt (small1000 hz)) ?_
    walk_at "go"
    have no : ¬ (l ≤ (z.length : Int) ∧ (z.length : Int) ≤ m) → Q (.bl false) H := fun n => by
      have := q H (L2.Same.refl H)
      rw [decide_eq_false n] at this
      exact this
    refine go_d (fun h1 => ?_) (fun h1 => ?_)
    · walk_at "go"
      refine go_dn (fun h2 => ?_) (fun h2 => ?_)
      · walk_at "go"
        exact no (fun n => h2 n.2)
      · walk_at "go"
        refine ⟨z, rfl, lc_ext walk_str (fun i ys _ => ys = ((z.cps.toList.take i).map low).map V.bl) (fun i ys _ _ _ r => r) rfl (fun _ _ => trivial) hz (fun i H x H' y => y.1 ▸ L2.Same.refl _) ?_ ?_⟩
        · rintro i ys x H1 H2 P N hi e1 rfl ⟨rfl, c, hc, rfl⟩ yes _
          walk_at "go"
          refine ⟨rfl, ?_⟩
          walk_at "go"
          have fin : ∀ b, b = low c → P (.bl b) H2 := fun b hb => yes _ H2 (L2.Same.refl _) (by rw [take_more (x := c) (by rw [Array.getElem?_toList]; exact hc), List.map_append, List.map_append, hb]; rfl)
          rw [show (Str.ofString "a").cps.toList = (#[97] : Array Nat).toList by decide +kernel, lt_one]
          refine go_dn (fun h3 => ?_) (fun h3 => ?_)
          · walk_at "go"
            rw [show (Str.ofString "z").cps.toList = (#[122] : Array Nat).toList by decide +kernel, lt_one]
            refine fin _ ?_
            unfold low
            by_cases h4 : 122 < c
            · rw [decide_eq_true h4, decide_eq_false (by omega)]; rfl
            · rw [decide_eq_false h4, decide_eq_true (by omega)]; rfl
          · refine fin _ ?_
            unfold low
            rw [decide_eq_false (by omega)]
        · rintro D ys H' nD e' hD _ rfl
          walk_at "go"
          refine go_all (SqL.of hD) ?_
          have q' := q H' e'
          rw [decide_eq_true ⟨h1, h2⟩, Bool.true_and] at q'
          rw [show z.cps.toList.take z.cps.size = z.cps.toList from List.take_of_length_le (by rw [Array.length_toList]; exact Nat.le_refl _), List.all_map]
          exact q'
    · walk_at "go"
      exact no (fun n => h1 n.1)
theorem small_one {c : Nat} {R : VK} (F : KF K a) (hc : 97 ≤ c ∧ c ≤ 122) (k : ∀ H', L2.Same H H' → R (.bl true) H') : sp_are_small K a ([.str (nmS c), .int 1, .int 1] ++ []) H R E := by
  refine ⟨.str (nmS c), 1, 1, .str, rfl, .str _, .inr ⟨nmS c, rfl, (by decide : 1 ≤ 1000), fun H' e => ?_⟩⟩
  have : (decide ((1 : Int) ≤ ((nmS c).length : Int) ∧ ((nmS c).length : Int) ≤ 1) && (nmS c).cps.toList.all low) = true := by
    show (decide ((1 : Int) ≤ ((1 : Nat) : Int) ∧ ((1 : Nat) : Int) ≤ 1) && [c].all low) = true
    simp [low, hc.1, hc.2]
  rw [this]
  exact k H' e
theorem is_int {i : Int} {R : VK} (k : R (.bl true) H) : sp_is_integer K a ([.int i] ++ []) H R E := ⟨.int i, .int, rfl, .int i, k⟩
theorem read_are_terms (F : KF K a) (h : sp_are_terms K a vs H Q E) : rd_are_terms K a E (ends Q) (start nm_are_terms vs) H := by
  obtain ⟨p, ts, rfl, ⟨qs, hp, hq⟩, wf, k⟩ := h
  unfold rd_are_terms
  walk_at "go"
  refine isi_tup (b := true) F (Kd.sqT hp) rfl ?_
  walk_at "go"
  refine ⟨p, rfl, ⟨_, hp⟩, for_it (walk_tup (K := K) (a := p) (xs := qs.map V.ref)) (fun i σ H' => ∃ (z : Str) (t : Option V), σ = [some (.ref p), some (.str z), t] ∧ L2.Same H H' ∧ (i = 0 ∧ z = Str.ofString "" ∨ ∃ c n, 0 < i ∧ ts[i - 1]? = some (c, n) ∧ z = nmS c)) ⟨_, _, rfl, L2.Same.refl H, .inl ⟨rfl, rfl⟩⟩ ?_ ?_ ?_⟩
  · rintro i σ H' _ ⟨z, t, rfl, e, _⟩
    exact hp.imm (.of e)
  · rintro i x σ H1 H2 hi ⟨z, t, rfl, e1, hz⟩ ⟨rfl, hx⟩
    obtain ⟨q, c, n, rfl, ht, hq0⟩ := hq.get hx
    have hq1 := e1 _ _ hq0
    have wt := wf.rng _ (List.mem_of_getElem? ht)
    walk_at "go"
    refine isi_tup (b := true) F (Kd.tup hq1) rfl ?_
    walk_at "go"
    refine go_lenT (SqT.of hq1) ?_
    walk_at "go"
    refine go_dnT rfl ?_
    walk_at "go"
    refine go_ixT (SqT.of hq1) (v := .str (nmS c)) rfl ?_
    walk_at "go"
    refine small_one F ⟨wt.1, wt.2.1⟩ fun H3 e3 => ?_
    have hq3 := e3 _ _ hq1
    walk_at "go"
    refine go_ixT (SqT.of hq3) (v := .str (nmS c)) rfl ?_
    walk_at "go"
    have lt : decide (z.cps.toList < (nmS c).cps.toList) = true := by
      rcases hz with ⟨_, rfl⟩ | ⟨c', n', h0, ht', rfl⟩
      · rfl
      · rw [show (nmS c').cps = #[c'] from rfl, show (nmS c).cps = #[c] from rfl, lt_one]
        refine decide_eq_true ?_
        have := (List.pairwise_iff_getElem.mp wf.srt) (i - 1) i (by have := (List.getElem?_eq_some_iff.mp ht').1; exact this) (List.getElem?_eq_some_iff.mp ht).1 (by omega)
        rw [(List.getElem?_eq_some_iff.mp ht').2, (List.getElem?_eq_some_iff.mp ht).2] at this
        exact this
    rw [lt]
    walk_at "go"
    refine go_ixT (SqT.of hq3) (v := .int n) rfl ?_
    walk_at "go"
    refine is_int ?_
    walk_at "go"
    refine go_ixT (SqT.of hq3) (v := .int n) rfl ?_
    walk_at "go"
    refine go_dF wt.2.2 ?_
    walk_at "go"
    refine go_ixT (SqT.of hq3) (v := .str (nmS c)) rfl ?_
    walk_at "go"
    exact ⟨_, _, rfl, e1.trans e3, .inr ⟨c, n, by omega, ht, rfl⟩⟩
  · rintro σ H1 ⟨z, t, rfl, e, _⟩
    walk_at "go"
    exact k H1 e
/-! ### Form(..) -/
theorem fold_nms : ∀ (r : List Tm) (acc : Array Nat), ((r.map fun t => nmS t.1).foldl (fun acc p => acc ++ (Str.ofString "").cps ++ p.cps) acc).toList = acc.toList ++ r.map (·.1)
  | [], acc => by simp
  | t :: r, acc => by
    rw [List.map_cons, List.foldl_cons, fold_nms r]
    have e : (Str.ofString "").cps = #[] := by decide +kernel
    rw [e]
    simp [nmS]
theorem join_nms (ts : List Tm) : Txt.join (Str.ofString "") (ts.map fun t => nmS t.1) = nmsOf ts := by
  refine str_ext ?_
  cases ts with
  | nil => rfl
  | cons t r =>
    show ((r.map fun t => nmS t.1).foldl (fun acc p => acc ++ (Str.ofString "").cps ++ p.cps) #[t.1]).toList = _
    rw [fold_nms]
    rfl
theorem sum_nms (ts : List Tm) : ((ts.map fun t => nmS t.1).map (·.length)).sum = ts.length := by
  induction ts with
  | nil => rfl
  | cons t r ih =>
    rw [List.map_cons, List.map_cons, List.sum_cons, ih]
    show 1 + r.length = r.length + 1
    omega
theorem TermsAt.ins {p C dx tp : Addr} {fs gs : List (Str × V)} {ts : List Tm} (hp : H p = some (.ins C dx fs)) (h : TermsAt K H tp ts) : TermsAt K (upd H p (.ins C dx gs)) tp ts := by
  obtain ⟨qs, h1, h2⟩ := h
  refine ⟨qs, ?_, ?_⟩
  · rcases h1 with (h | ⟨o, h⟩) | h
    · exact .inl (.inl (by rw [upd_ne (fun e => by rw [e, hp] at h; cases h)]; exact h))
    · exact .inl (.inr ⟨o, by rw [upd_ne (fun e => by rw [e, hp] at h; cases h)]; exact h⟩)
    · exact .inr h
  · clear h1
    induction h2 with
    | nil => exact .nil
    | cons h r ih => exact .cons (by rw [upd_ne (fun e => by rw [e, hp] at h; cases h)]; exact h) ih
theorem putC (c : V) : putF (Str.ofString "constant") c [] = [(Str.ofString "constant", c)] := rfl
theorem putT (c t : V) : putF (Str.ofString "terms") t [(Str.ofString "constant", c)] = [(Str.ofString "constant", c), (Str.ofString "terms", t)] := by
  unfold putF
  rw [if_neg (by decide +kernel)]
  rfl
theorem putN (c t n : V) : putF (Str.ofString "names") n [(Str.ofString "constant", c), (Str.ofString "terms", t)] = [(Str.ofString "constant", c), (Str.ofString "terms", t), (Str.ofString "names", n)] := by
  unfold putF
  rw [if_neg (by decide +kernel)]
  unfold putF
  rw [if_neg (by decide +kernel)]
  rfl
theorem read_Form___init__ (F : KF K a) (h : sp_Form___init__ K a vs H Q E) : rd_Form___init__ K a E (ends Q) (start nm_Form___init__ vs) H := by
  obtain ⟨p, dx, c, tp, ts, rfl, hp, hT, wf, k⟩ := h
  unfold rd_Form___init__
  walk_at "go"
  refine is_int ?_
  walk_at "go"
  refine ⟨tp, ts, rfl, hT, wf, fun H1 e1 => ?_⟩
  have hp1 := e1 _ _ hp
  walk_at "go"
  refine go_sfldE hp1 (by decide) ?_
  walk_at "go"
  refine go_sfldE upd_same (by show 1 < 1000; decide) ?_
  rw [upd_upd, putC, putT]
  have hT2 := TermsAt.ins (gs := [("constant", V.int c), ("terms", V.ref tp)]) hp1 (hT.up e1)
  have hp2 : upd H1 p (.ins a.C_Form dx [("constant", V.int c), ("terms", V.ref tp)]) p = some (.ins a.C_Form dx [("constant", V.int c), ("terms", V.ref tp)]) := upd_same
  have k2 : ∀ b o, b ≠ p → H b = some o → upd H1 p (.ins a.C_Form dx [("constant", V.int c), ("terms", V.ref tp)]) b = some o := fun b o n e => by rw [upd_ne n]; exact e1 _ _ e
  generalize upd H1 p (.ins a.C_Form dx [("constant", V.int c), ("terms", V.ref tp)]) = H2 at hT2 hp2 k2 ⊢
  walk_at "go"
  refine isS ?_
  obtain ⟨qs, hq, hr⟩ := id hT2
  walk_at "go"
  refine ⟨tp, rfl, ⟨_, hq⟩, lc_ext (walk_tup (K := K) (a := tp) (xs := qs.map V.ref)) (fun i ys _ => ys = ((ts.take i).map fun t => nmS t.1).map V.str) (fun i ys _ _ _ r => r) rfl (fun H' e => hq.imm (.of e)) (by rw [List.length_map, hr.len]; have := wf.len; omega) (fun i H x H' y => y.1 ▸ L2.Same.refl _) ?_ ?_⟩
  · rintro i ys x H3 H4 P N hi e3 rfl ⟨rfl, hx⟩ yes _
    obtain ⟨q, c', n, rfl, ht, hq0⟩ := hr.get hx
    walk_at "go"
    refine ⟨rfl, ?_⟩
    walk_at "go"
    refine go_ixT (SqT.of (e3 _ _ hq0)) (v := .str (nmS c')) rfl ?_
    exact yes _ _ (L2.Same.refl _) (by rw [take_more ht, List.map_append, List.map_append]; rfl)
  · rintro D ys H3 nD e3 hD _ rfl
    rw [List.length_map, hr.len, List.take_length] at hD
    refine ⟨Str.ofString "", D, ts.map fun t => nmS t.1, rfl, rfl, .inl (SqL.of hD), ?_, ?_⟩
    · rw [sum_nms, List.length_map]
      have := wf.len
      have e : (Str.ofString "").length = 0 := by decide +kernel
      rw [e]; omega
    · rw [join_nms]
      walk_at "go"
      have hp3 := e3 _ _ hp2
      refine go_sfldE hp3 (by show 2 < 1000; decide) ?_
      walk_at "go"
      rw [putN]
      exact k _ (fun b o n e => by rw [upd_ne n]; exact e3 _ _ (k2 b o n e)) ⟨⟨dx, tp, upd_same, TermsAt.ins hp3 (hT2.up e3)⟩, wf⟩
theorem init_form {G : Addr → Hp → Prop} {x dx tp : Addr} {c : Int} {ts : List Tm} (hT : TermsAt K H tp ts) (wf : WF ts) (h : ∀ p H', L2.Same H H' → FormAt K a H' p c ts → G p H') (hx : H x = none) (hdx : H dx = none) (hne : dx ≠ x) :
    sp_Form___init__ K a [.ref x, .int c, .ref tp] (upd (upd H dx (.own x)) x (.ins a.C_Form dx [])) (fun v H2 => v = .non ∧ G x H2) E := by
  have e : L2.Same H (upd (upd H dx (.own x)) x (.ins a.C_Form dx [])) := fun b o e => by rw [upd_ne (ne_of_none e hx), upd_ne (ne_of_none e hdx)]; exact e
  exact ⟨x, dx, c, tp, ts, rfl, upd_same, hT.up e, wf, fun H' k r => ⟨rfl, h x H' (fun b o q => k b o (ne_of_none q hx) (e b o q)) r⟩⟩
theorem mk_form {G : Addr → Hp → Prop} {tp : Addr} {c : Int} {ts : List Tm} (hT : TermsAt K H tp ts) (wf : WF ts) (h : ∀ p H', L2.Same H H' → FormAt K a H' p c ts → G p H') :
    ∀ x dx, H x = none → H dx = none → dx ≠ x → sp_Form___init__ K a (.ref x :: ([.int c, .ref tp] ++ [])) (upd (upd H dx (.own x)) x (.ins a.C_Form dx [])) (fun v H2 => v = .non ∧ G x H2) E :=
  fun x dx hx hdx hne => init_form hT wf h hx hdx hne
theorem mk_form1 {G : Addr → Hp → Prop} {tp : Addr} {c : Int} {ts : List Tm} (hT : TermsAt K H tp ts) (wf : WF ts) (h : ∀ p H', L2.Same H H' → FormAt K a H' p c ts → G p H') :
    ∀ x dx, H x = none → H dx = none → dx ≠ x → sp_Form___init__ K a (.ref x :: ([.int c] ++ [.ref tp])) (upd (upd H dx (.own x)) x (.ins a.C_Form dx [])) (fun v H2 => v = .non ∧ G x H2) E :=
  fun x dx hx hdx hne => init_form hT wf h hx hdx hne
theorem mk_form0 {G : Addr → Hp → Prop} {tp : Addr} {c : Int} {ts : List Tm} (hT : TermsAt K H tp ts) (wf : WF ts) (h : ∀ p H', L2.Same H H' → FormAt K a H' p c ts → G p H') :
    ∀ x dx, H x = none → H dx = none → dx ≠ x → sp_Form___init__ K a (.ref x :: ([] ++ [.int c, .ref tp])) (upd (upd H dx (.own x)) x (.ins a.C_Form dx [])) (fun v H2 => v = .non ∧ G x H2) E :=
  fun x dx hx hdx hne => init_form hT wf h hx hdx hne
/-! ### form_of -/
theorem perm_map_inv {α β : Type} {f : α → β} {l l' : List β} (h : l.Perm l') : ∀ ks : List α, l' = ks.map f → ∃ us : List α, us.Perm ks ∧ us.map f = l := by
  induction h with
  | nil => intro ks e; cases ks with
    | nil => exact ⟨[], .nil, rfl⟩
    | cons k ks => cases e
  | @cons x l1 l2 h ih =>
    intro ks e
    cases ks with
    | nil => cases e
    | cons k ks =>
      rw [List.map_cons] at e
      obtain ⟨us, h1, h2⟩ := ih ks (List.cons.inj e).2
      exact ⟨k :: us, h1.cons k, by rw [List.map_cons, h2, (List.cons.inj e).1]⟩
  | swap x y l =>
    intro ks e
    match ks, e with
    | k1 :: k2 :: ks, e =>
      rw [List.map_cons, List.map_cons] at e
      have e1 := List.cons.inj e
      have e2 := List.cons.inj e1.2
      exact ⟨k2 :: k1 :: ks, .swap k1 k2 ks, by rw [List.map_cons, List.map_cons, ← e1.1, ← e2.1, e2.2]⟩
    | [k1], e => exact absurd (congrArg List.length e) (by simp)
    | [], e => exact absurd (congrArg List.length e) (by simp)
  | trans h1 h2 ih1 ih2 =>
    intro ks e
    obtain ⟨us, p1, e1⟩ := ih2 ks e
    obtain ⟨vs, p2, e2⟩ := ih1 us e1.symm
    exact ⟨vs, p2.trans p1, e2⟩
theorem ltC_one (x y : Nat) : ltCps (nmS x).cps.toList (nmS y).cps.toList = decide (x < y) := by
  show ltCps [x] [y] = decide (x < y)
  simp [ltCps]
theorem rising_pw : ∀ (us : List Tm) (u : Tm), risingS (nmS u.1) (us.map fun t => nmS t.1) = true → (u :: us).Pairwise fun x y => x.1 ≤ y.1
  | [], u, _ => List.pairwise_singleton ..
  | v :: us, u, h => by
    rw [List.map_cons] at h
    unfold risingS at h
    rw [ltC_one, Bool.and_eq_true] at h
    have ih := rising_pw us v h.2
    have h1 : u.1 ≤ v.1 := by have := h.1; simp at this; exact this
    refine List.pairwise_cons.mpr ⟨fun w hw => ?_, ih⟩
    rcases List.mem_cons.mp hw with rfl | hw
    · exact h1
    · exact Nat.le_trans h1 ((List.pairwise_cons.mp ih).1 w hw)
theorem sorted_pw {us : List Tm} (h : sortedS (us.map fun t => nmS t.1) = true) (nd : (us.map (·.1)).Nodup) : us.Pairwise fun x y => x.1 < y.1 := by
  have h1 : us.Pairwise fun x y => x.1 ≤ y.1 := by
    cases us with
    | nil => exact .nil
    | cons u us => exact rising_pw us u h
  have h2 : us.Pairwise fun x y => x.1 ≠ y.1 := List.pairwise_map.mp nd
  exact (h1.and h2).imp fun h => by omega
theorem valV_kvs : ∀ {ks : List Tm} {c : Nat} {n : Int}, (c, n) ∈ ks → (ks.map (·.1)).Nodup → valV (kvs ks) (.inr (nmS c)) = some (.int n)
  | (c', n') :: ks, c, n, hm, nd => by
    unfold valV kvs
    rw [List.map_cons, List.find?_cons]
    by_cases e : c' = c
    · subst e
      rw [decide_eq_true rfl]
      rcases List.mem_cons.mp hm with h | h
      · cases h; rfl
      · have := (List.nodup_cons.mp nd).1
        exact absurd (List.mem_map.mpr ⟨_, h, rfl⟩) this
    · rw [decide_eq_false (by
        intro q
        have q2 := Sum.inr.inj q
        have q3 : (#[c'] : Array Nat) = #[c] := congrArg Str.cps q2
        exact e (by simpa using q3))]
      rcases List.mem_cons.mp hm with h | h
      · cases h; exact absurd rfl e
      · exact valV_kvs h (List.nodup_cons.mp nd).2
theorem lock_back {d D : Addr} {u : HO} {o : Obj} {H' : Hp} {xs : List V} (hd : H d = some u) (e : L2.Same (upd H d (.frz o u)) H') (nD : upd H d (.frz o u) D = none) (hD : H' D = some (.lst xs)) : L2.Same H (upd H' d u) ∧ upd H' d u D = some (.lst xs) ∧ H' d = some (.frz o u) ∧ H D = none := by
  have hdD : D ≠ d := fun q => by rw [q, upd_same] at nD; cases nD
  refine ⟨fun b v hb => ?_, by rw [upd_ne hdD]; exact hD, e _ _ upd_same, by rw [upd_ne hdD] at nD; exact nD⟩
  by_cases q : b = d
  · subst q; rw [upd_same, ← hb, hd]
  · rw [upd_ne q]; exact e _ _ (by rw [upd_ne q]; exact hb)
theorem read_form_of (F : KF K a) (h : sp_form_of K a vs H Q E) : rd_form_of K a E (ends Q) (start nm_form_of vs) H := by
  obtain ⟨c, d, ks, rfl, hd, nd, rg, hl, k⟩ := h
  unfold rd_form_of
  walk_at "go"
  refine ⟨d, _, hd, trivial, fun od => ?_⟩
  walk_at "go"
  refine ⟨d, od, rfl, .inl ⟨kvs ks, upd_same, ?_⟩⟩
  refine lc_ext (walk_keys (d := d) (o := od) (kvs := kvs ks)) (fun i ys _ => ys = ((ks.take i).map fun t => nmS t.1).map V.str) (fun i ys _ _ _ r => r) rfl (fun H' e => e _ _ upd_same) (by unfold kvs; rw [List.length_map]; omega) (fun i H x H' y => y.1 ▸ L2.Same.refl _) ?_ ?_
  · rintro i ys x H3 H4 P N hi e3 rfl ⟨rfl, key, v, hx, rfl⟩ yes _
    unfold kvs at hx
    rw [List.getElem?_map] at hx
    obtain ⟨t, ht, hx⟩ := Option.map_eq_some_iff.mp hx
    cases hx
    walk_at "go"
    refine ⟨rfl, ?_⟩
    walk_at "go"
    show rStrS [V.str (nmS t.1)] H4 P
    walk_at "go"
    exact yes _ _ (L2.Same.refl _) (by rw [take_more ht, List.map_append, List.map_append]; rfl)
  · rintro D ys H3 nD e3 hD _ rfl
    rw [show (kvs ks).length = ks.length from List.length_map _, List.take_length] at hD
    obtain ⟨e4, hD4, hf, nD'⟩ := lock_back hd e3 nD hD
    refine ⟨hf, ?_⟩
    have hd4 : upd H3 d (.dK (kvs ks)) d = some (.dK (kvs ks)) := upd_same
    generalize upd H3 d (.dK (kvs ks)) = H4 at e4 hD4 hd4 ⊢
    walk_at "go"
    refine ⟨D, ks.map fun t => nmS t.1, rfl, SqL.of hD4, by rw [List.length_map]; omega, fun zs L pz sz nL => ?_⟩
    obtain ⟨us, pu, rfl⟩ := perm_map_inv pz ks rfl
    have nu : (us.map (·.1)).Nodup := (pu.map (·.1)).nodup_iff.mpr nd
    have su := sorted_pw sz nu
    have e5 : L2.Same H4 (upd H4 L (.lst ((us.map fun t => nmS t.1).map V.str))) := Same.new nL
    have hL5 : upd H4 L (.lst ((us.map fun t => nmS t.1).map V.str)) L = some (.lst ((us.map fun t => nmS t.1).map V.str)) := upd_same
    generalize upd H4 L (.lst ((us.map fun t => nmS t.1).map V.str)) = H5 at e5 hL5 ⊢
    have hd5 := e5 _ _ hd4
    walk_at "go"
    refine ⟨L, rfl, ⟨_, SqL.of hL5⟩, lc_ext (walk_list (K := K) (a := L) (xs := (us.map fun t => nmS t.1).map V.str)) (fun i ys H' => ∃ qs : List Addr, ys = qs.map V.ref ∧ Prs H' qs ((us.take i).filter fun t => t.2 ≠ 0)) (fun i ys _ _ m ⟨qs, e, r⟩ => ⟨qs, e, r.imm m⟩) ⟨[], rfl, .nil⟩ (fun H' e => SqL.of (e _ _ hL5)) (by rw [List.length_map, List.length_map, pu.length_eq]; omega) (fun i H x H' y => y.1 ▸ L2.Same.refl _) ?_ ?_⟩
    · rintro i ys x H6 H7 P N hi e6 ⟨qs, rfl, hr⟩ ⟨rfl, hx⟩ yes no
      rw [List.getElem?_map, List.getElem?_map] at hx
      obtain ⟨z, hz, rfl⟩ := Option.map_eq_some_iff.mp hx
      obtain ⟨⟨c', n⟩, ht, rfl⟩ := Option.map_eq_some_iff.mp hz
      have hm : (c', n) ∈ ks := pu.mem_iff.mp (List.mem_of_getElem? ht)
      have hv := valV_kvs hm nd
      have hd6 := e6 _ _ hd5
      walk_at "go"
      refine ⟨rfl, ?_⟩
      walk_at "go"
      refine ⟨d, .int n, rfl, .inl ⟨_, .inr (nmS c'), .inl hd6, rfl, hv.symm⟩, ?_⟩
      walk_at "go"
      refine go_dn (fun h0 => ?_) (fun h0 => ?_)
      · walk_at "go"
        refine ⟨d, .int n, rfl, .inl ⟨_, .inr (nmS c'), .inl hd6, rfl, hv.symm⟩, ?_⟩
        walk_at "go"
        walk_at "nw"
        rename_i q nq H8 e8 hq
        refine yes _ _ e8 ⟨qs ++ [q], by rw [List.map_append]; rfl, ?_⟩
        rw [take_more ht, List.filter_append, List.filter_cons_of_pos (by simp [h0]), List.filter_nil]
        exact (hr.imm (.of e8)).snoc hq
      · refine no _ (L2.Same.refl _) ⟨qs, rfl, ?_⟩
        rw [take_more ht, List.filter_append, List.filter_cons_of_neg (by simp [h0]), List.filter_nil, List.append_nil]
        exact hr
    · rintro D2 ys H6 nD2 e6 hD2 _ ⟨qs, rfl, hr⟩
      rw [List.length_map, List.length_map, List.take_length] at hr
      walk_at "go"
      refine go_tupL (SqL.of hD2) fun tp H7 ntp e7 htp => ?_
      walk_at "go"
      have wf : WF (us.filter fun t => t.2 ≠ 0) := ⟨su.filter _, fun t ht => by
        have h1 := List.mem_filter.mp ht
        have h2 := rg t (pu.mem_iff.mp h1.1)
        exact ⟨h2.1, h2.2, by have := h1.2; simpa using this⟩⟩
      exact mk_form ⟨qs, SqT.of htp, hr.imm (.of e7)⟩ wf fun p H8 e8 hp => k p _ H8 ((((e4.trans e5).trans e6).trans e7).trans e8) (pu.filter _) hp
/-! ### texts of forms -/
theorem sz {n : Nat} (h : n ≤ 100000) : n ≤ sizeLine := by rw [sizeLine_eq]; omega
theorem read_piece_text (h : sp_piece_text K a vs H Q E) : rd_piece_text K a E (ends Q) (start nm_piece_text vs) H := by
  obtain ⟨n, z, rfl, hb, hz, k⟩ := h
  have lt := txt_len hb
  unfold rd_piece_text
  walk_at "go"
  show if decide (ab n = 1) = true then _ else _
  unfold ptxt at k
  refine go_d (fun e => ?_) (fun e => ?_)
  · rw [if_pos e] at k
    walk_at "go"
    exact k
  · rw [if_neg e] at k
    walk_at "go"
    refine .inr ⟨_, rfl, ab_log hb, ⟨_, rfl, by rw [str_nil_app]; exact sz (by have := lt; unfold ab at this; omega), ?_⟩⟩
    rw [str_nil_app]
    show tJs _ (Str.ofString (toString (ab n))) _ _ _
    walk_at "go"
    have e1 : (Str.ofString " ").length = 1 := by decide +kernel
    refine ⟨_, rfl, by rw [len_app]; exact sz (by omega), ?_⟩
    walk_at "go"
    refine .inl ⟨_, rfl, sz (by omega), ⟨_, rfl, by rw [len_app, len_app]; exact sz (by omega), ?_⟩⟩
    walk_at "go"
    exact k
theorem cutV_one (xs : List V) : cutV xs (some 1) none = xs.drop 1 := by
  unfold cutV
  have e1 : HT.sIx xs.length 0 (some 1) = min 1 xs.length := HT.sIx_nat xs.length 0 1
  rw [e1, HT.sIx_none]
  cases xs with
  | nil => rfl
  | cons x r =>
    have : min 1 (x :: r).length = 1 := by rw [List.length_cons]; omega
    rw [this]
    exact List.take_of_length_le (by rw [List.length_drop]; exact Nat.le_refl _)
theorem go_con {p : Addr} {c : Int} {ts : List Tm} {R : V → Prop} (h : FormAt K a H p c ts) (q : R (.int c)) : ∃ b dx fs v, V.ref p = .ref b ∧ H b = some (.ins a.C_Form dx fs) ∧ fs.lookup (Str.ofString "constant") = some v ∧ R v := let ⟨⟨dx, tp, h1, _⟩, _⟩ := h; ⟨p, dx, _, _, rfl, h1, by rfl, q⟩
theorem go_trm {p : Addr} {c : Int} {ts : List Tm} {R : V → Prop} (h : FormAt K a H p c ts) (q : ∀ tp, TermsAt K H tp ts → R (.ref tp)) : ∃ b dx fs v, V.ref p = .ref b ∧ H b = some (.ins a.C_Form dx fs) ∧ fs.lookup (Str.ofString "terms") = some v ∧ R v := let ⟨⟨dx, tp, h1, h2⟩, _⟩ := h; ⟨p, dx, _, _, rfl, h1, by
  have n1 : ((Str.ofString "terms") == (Str.ofString "constant")) = false := by decide +kernel
  rw [List.lookup_cons, n1]
  rfl, q tp h2⟩
theorem go_nms {p : Addr} {c : Int} {ts : List Tm} {R : V → Prop} (h : FormAt K a H p c ts) (q : R (.str (nmsOf ts))) : ∃ b dx fs v, V.ref p = .ref b ∧ H b = some (.ins a.C_Form dx fs) ∧ fs.lookup (Str.ofString "names") = some v ∧ R v := let ⟨⟨dx, tp, h1, h2⟩, _⟩ := h; ⟨p, dx, _, _, rfl, h1, by
  have n1 : ((Str.ofString "names") == (Str.ofString "constant")) = false := by decide +kernel
  have n2 : ((Str.ofString "names") == (Str.ofString "terms")) = false := by decide +kernel
  rw [List.lookup_cons, n1]
  show List.lookup _ (_ :: _) = _
  rw [List.lookup_cons, n2]
  rfl, q⟩
/-- a comprehension over the terms of a form whose items are plain -/
theorem lc_terms {tp : Addr} {ts : List Tm} {g : TG} {tt : TT} {te : TE} {ws : List Nat} {σ : L2.St} {Qd : Addr → Hp → Prop} (f : Tm → V) (hT : TermsAt K H tp ts) (wf : WF ts)
    (hs : ∀ q c n H' (P : VK) (N : Hp → Prop), (c, n) ∈ ts → L2.Same H H' → H' q = some (.tup [.str (nmS c), .int n]) → (∀ H4, L2.Same H' H4 → P (f (c, n)) H4) → g (.ref q) (wipe σ ws) H' fun σ2 H2 => wipe σ2 ws = wipe σ ws ∧ tt σ2 H2 fun b H3 => if b = true then te σ2 H3 P else N H3)
    (hd : ∀ D H', H D = none → L2.Same H H' → H' D = some (.lst (ts.map f)) → Qd D H') :
    ∃ (p : Addr), V.ref tp = .ref p ∧ (∃ xs, SqT K H p xs) ∧ ∀ D, H D = none → ∃ W : Nat → Nat → Hp → Prop, (∃ m, W 0 m (upd H D (.lst []))) ∧ ∀ i m H, W i m H →
      ((Itt K p).stop i H ∧ Qd D H) ∨ ((Itt K p).go i H ∧ ∃ Nx : Hp → Prop, (∀ H', Nx H' → ∃ m', m' < m ∧ W (i + 1) m' H') ∧ ∀ x H', (Itt K p).yld i H x H' → g x (wipe σ ws) H' fun σ2 H2 => wipe σ2 ws = wipe σ ws ∧ tt σ2 H2 fun b H3 =>
        if b = true then te σ2 H3 fun y H4 => ∃ acc, H4 D = some (.lst acc) ∧ acc.length < sizeLine ∧ Nx (upd H4 D (.lst (acc ++ [y]))) else Nx H3) := by
  obtain ⟨qs, hq, hr⟩ := hT
  refine ⟨tp, rfl, ⟨_, hq⟩, lc_ext (walk_tup (K := K) (a := tp) (xs := qs.map V.ref)) (fun i ys _ => ys = (ts.take i).map f) (fun i ys _ _ _ r => r) rfl (fun H' e => hq.imm (.of e)) (by rw [List.length_map, hr.len]; have := wf.len; omega) (fun i H x H' y => y.1 ▸ L2.Same.refl _) ?_ ?_⟩
  · rintro i ys x H3 H4 P N hi e3 rfl ⟨rfl, hx⟩ yes _
    obtain ⟨q, c', n, rfl, ht, hq0⟩ := hr.get hx
    exact hs q c' n H4 P N (List.mem_of_getElem? ht) e3 (e3 _ _ hq0) fun H5 e5 => yes _ _ e5 (by rw [take_more ht, List.map_append]; rfl)
  · rintro D ys H3 nD e3 hD _ rfl
    rw [List.length_map, hr.len, List.take_length] at hD
    exact hd D H3 nD e3 hD
theorem g_pair {q : Addr} {i j : Nat} {x y : V} {σ : L2.St} {R : L2.St → Hp → Prop} (h : SqT K H q [x, y]) (k : R ((σ.set i (some x)).set j (some y)) H) : gTup K 2 (gCons (gName i) (gCons (gName j) gNil)) (.ref q) σ H R :=
  ⟨q, _, rfl, h, rfl, _, _, rfl, _, _, rfl, rfl, k⟩
theorem foldl_take {α β : Type} {f : β → α → β} {b : β} {l : List α} {i : Nat} {x : α} (h : l[i]? = some x) : (l.take (i + 1)).foldl f b = f ((l.take i).foldl f b) x := by rw [take_more h, List.foldl_append]; rfl
theorem dp_strs {p : Addr} {xs : List Str} (h : SqL K H p (xs.map V.str)) : Dp K H (.ref p) (.list (xs.map PyData.str)) := by
  refine .lst h ?_
  clear h
  induction xs with
  | nil => exact .nil
  | cons x r ih => exact .cons (.str x) ih
theorem go_viaIf {D : Ends} {σ : L2.St} (P : L2.St → Hp → Prop) {c : TT} {t1 t2 t3 : TS} (k : ∀ σ' H', P σ' H' → t3 D σ' H') (h : (∀ σ' H', P σ' H' → t3 D σ' H') → tIfS c t1 t2 { D with nx := t3 D } σ H) : tSeq (tIfS c t1 t2) t3 D σ H := h k
theorem go_viaE {σ : L2.St} {R : VK} (P : VK) {te : TE} (k : ∀ v H', P v H' → R v H') (h : (∀ v H', P v H' → R v H') → te σ H R) : te σ H R := h k
theorem ok_of (z : String) : PyData.strOk (Str.ofString z) = true := by
  unfold PyData.strOk
  rw [Str.ofString_eq_toList]
  simp only [List.all_toArray]
  rw [List.all_eq_true]
  intro c hc
  obtain ⟨d, _, rfl⟩ := List.mem_map.mp hc
  refine decide_eq_true ?_
  have := d.valid
  show d.val.toNat < 1114112
  rcases this with h | ⟨_, h⟩
  · have : d.val.toNat < 0xd800 := h
    omega
  · have : d.val.toNat < 0x110000 := h
    omega
theorem ok_app {x y : Str} (hx : PyData.strOk x = true) (hy : PyData.strOk y = true) : PyData.strOk (x ++ y) = true := by
  unfold PyData.strOk at *
  show (x.cps ++ y.cps).all _ = true
  rw [Array.all_append, hx, hy]; rfl
theorem ok_nmS {c : Nat} (h : c ≤ 122) : PyData.strOk (nmS c) = true := by
  unfold PyData.strOk nmS
  simp
  omega
theorem ok_ptxt {n : Int} {z : Str} (h : PyData.strOk z = true) : PyData.strOk (ptxt n z) = true := by
  unfold ptxt
  split
  · exact h
  · exact ok_app (ok_app (ok_of _) (ok_of _)) h
theorem ok_items {c : Int} {ts : List Tm} (wf : WF ts) : ∀ p ∈ items c ts, PyData.strOk p.2 = true := by
  intro p hp
  unfold items at hp
  rcases List.mem_append.mp hp with hp | hp
  · split at hp
    · cases List.mem_singleton.mp hp; exact ok_of _
    · cases hp
  · obtain ⟨t, ht, rfl⟩ := List.mem_map.mp hp
    exact ok_ptxt (ok_nmS (wf.rng t ht).2.1)
theorem ok_fold : ∀ (r : List (Bool × Str)) (acc : Str), PyData.strOk acc = true → (∀ p ∈ r, PyData.strOk p.2 = true) → PyData.strOk (r.foldl glue1 acc) = true
  | [], acc, h, _ => h
  | p :: r, acc, h, hr => by
    refine ok_fold r (glue1 acc p) ?_ fun q hq => hr q (List.mem_cons_of_mem _ hq)
    unfold glue1
    refine ok_app (ok_app h ?_) (hr p (List.mem_cons_self ..))
    split <;> exact ok_of _
theorem ok_formText {c : Int} {ts : List Tm} (wf : WF ts) : PyData.strOk (formText c ts) = true := by
  unfold formText
  have h := ok_items (c := c) wf
  obtain ⟨p, r, e⟩ := items_ne c ts
  rw [e] at h ⊢
  refine ok_fold r _ ?_ fun q hq => h q (List.mem_cons_of_mem _ hq)
  have h1 := h p (List.mem_cons_self ..)
  split
  · exact ok_app (ok_of _) h1
  · exact h1
theorem sh_strs {xs : List Str} (h : ∀ x ∈ xs, PyData.strOk x = true) : SeqAt.shaped (.list (xs.map PyData.str)) = true := by
  unfold SeqAt.shaped
  have h1 : (PyData.list (xs.map PyData.str)).canLay0 = true := by
    unfold PyData.canLay0
    rw [PyProof.Rows.canLayAll_strs', List.all_eq_true]
    exact h
  have h2 : PyData.depthAll (xs.map PyData.str) = 0 := by
    clear h h1
    induction xs with
    | nil => rfl
    | cons x r ih =>
      rw [List.map_cons]
      unfold PyData.depthAll
      rw [ih]; rfl
  have h3 : (PyData.list (xs.map PyData.str)).depth ≤ 64 := by
    unfold PyData.depth
    rw [h2]; omega
  rw [h1, decide_eq_true h3]; rfl
theorem eqv_nil (xs : List PyData) : PyData.eqv (.list xs) (.list []) = xs.isEmpty := by
  cases xs <;> simp [PyData.eqv, PyData.eqvAll]
theorem at0 {α : Type} (x : α) (r : List α) : atI (x :: r) 0 = some x := by
  unfold atI ixN
  rw [if_pos (by decide), if_pos (by rw [List.length_cons]; omega)]
  rfl
theorem read_text_of (h : sp_text_of K a vs H Q E) : rd_text_of K a E (ends Q) (start nm_text_of vs) H := by
  obtain ⟨p, c, ts, rfl, hF, sm, k⟩ := h
  have wf := hF.2
  unfold rd_text_of
  walk_at "go"
  refine go_trm hF fun tp hT => ?_
  refine lc_terms (fun t => .bl (decide (t.2 < 0))) hT wf ?_ ?_
  · rintro q c' n H' P N hm e hq yes
    refine g_pair (SqT.of hq) ⟨rfl, ?_⟩
    walk_at "go"
    exact yes _ (L2.Same.refl _)
  intro D1 H1 n1 e1 hD1
  walk_at "go"
  refine go_trm (hF.up e1) fun tp2 hT2 => ?_
  refine lc_terms (fun t => .str (ptxt t.2 (nmS t.1))) hT2 wf ?_ ?_
  · rintro q c' n H' P N hm e hq yes
    refine g_pair (SqT.of hq) ⟨rfl, ?_⟩
    walk_at "go"
    exact ⟨n, nmS c', rfl, sm.ts _ hm, (by decide : 1 ≤ 10), yes _ (L2.Same.refl _)⟩
  intro D2 H2 n2 e2 hD2
  have hF2 := hF.up (e1.trans e2)
  have hD1' := e2 _ _ hD1
  refine go_nil ?_
  refine go_pair ?_
  with_reducible refine go_viaIf (fun σ H3 => ∃ s1 p1 : Addr, σ = [some (.ref p), some (.ref s1), some (.ref p1), none, none, none, none, none] ∧ L2.Same H H3 ∧ H3 s1 = some (.lst ((items c ts).map fun t => V.bl t.1)) ∧ H3 p1 = some (.lst ((items c ts).map fun t => V.str t.2))) ?_ (fun fin => ?_)
  · rintro _ H3 ⟨s1, p1, rfl, e3, hs, hp⟩
    obtain ⟨⟨b0, z0⟩, r, er⟩ := items_ne c ts
    have il := items_len wf c
    have it := items_txt sm.c sm.ts
    unfold formText at k
    rw [er] at hs hp k il it
    have hz0 := it _ (List.mem_cons_self ..)
    walk_at "go"
    refine go_ixL (SqL.of hs) (v := .bl b0) (at0 _ _) ?_
    walk_at "go"
    have hm : (Str.ofString "-").length = 1 := by decide +kernel
    refine go_join (P := fun v => v = .str (if b0 = true then Str.ofString "-" ++ z0 else z0)) (fun e R q => ?_) (fun e R q => ?_) ?_
    · walk_at "go"
      refine go_ixL (SqL.of hp) (v := .str z0) (at0 _ _) ?_
      refine go_addS (sz (by rw [hm]; have : z0.length ≤ 620 := hz0; omega)) ?_
      exact q _ (by rw [if_pos e])
    · walk_at "go"
      refine go_ixL (SqL.of hp) (v := .str z0) (at0 _ _) ?_
      exact q _ (by rw [if_neg (by rw [e]; simp)])
    · rintro _ rfl
      walk_at "go"
      refine go_slL (SqL.of hs) fun l1 H4 nl1 e4 hl1 => ?_
      walk_at "go"
      refine go_slL (SqL.of (e4 _ _ hp)) fun l2 H5 nl2 e5 hl2 => ?_
      rw [cutV_one] at hl1 hl2
      have hl1' := e5 _ _ hl1
      walk_at "go"
      refine ⟨l1, l2, _, _, rfl, SqL.of hl1', SqL.of hl2, ?_⟩
      have f0 : (if b0 = true then Str.ofString "-" ++ z0 else z0).length ≤ 621 := by
        have : z0.length ≤ 620 := hz0
        split
        · rw [len_app, hm]; omega
        · omega
      refine for_it (walk_zip (K := K) (a := l1) (b := l2) (xs := r.map fun t => V.bl t.1) (ys := r.map fun t => V.str t.2) (n := r.length) (by rw [List.length_map, List.length_map, Nat.min_self])) (fun i σ H' => ∃ t6 t7 : Option V, σ = [some (.ref p), some (.ref s1), some (.ref p1), none, none, some (.str ((r.take i).foldl glue1 (if b0 = true then Str.ofString "-" ++ z0 else z0))), t6, t7] ∧ L2.Same H5 H') ⟨none, none, rfl, L2.Same.refl _⟩ ?_ ?_ ?_
      · rintro i σ H' _ ⟨t6, t7, rfl, e⟩
        exact ⟨SqL.of (e _ _ hl1'), SqL.of (e _ _ hl2)⟩
      · rintro i x σ H6 H7 hi ⟨t6, t7, rfl, e6⟩ ⟨T, x1, y1, rfl, nT, rfl, hx, hy⟩
        dsimp only at hx hy
        rw [List.getElem?_map] at hx hy
        obtain ⟨⟨b, z⟩, hb, rfl⟩ := Option.map_eq_some_iff.mp hx
        rw [hb] at hy
        obtain rfl : V.str z = y1 := Option.some.inj hy
        have lz : z.length ≤ 620 := it _ (List.mem_cons_of_mem _ (List.mem_of_getElem? hb))
        have l1 := fold_len (r.take i) (if b0 = true then Str.ofString "-" ++ z0 else z0) fun q hq => it _ (List.mem_cons_of_mem _ (List.mem_of_mem_take hq))
        have l2 : (r.take i).length ≤ 27 := by rw [List.length_take]; rw [List.length_cons] at il; omega
        have e1' : (Str.ofString " - ").length = 3 := by decide +kernel
        have e2' : (Str.ofString " + ").length = 3 := by decide +kernel
        refine g_pair (SqT.of upd_same) ?_
        walk_at "go"
        refine go_join (P := fun v => v = .str (if b = true then Str.ofString " - " else Str.ofString " + ")) (fun e R q => ?_) (fun e R q => ?_) ?_
        · exact q _ (by rw [if_pos (show b = true from e)])
        · exact q _ (by rw [if_neg (show ¬ b = true from fun z => Bool.noConfusion ((show b = false from e).symm.trans z))])
        rintro _ rfl
        have l3 : (if b = true then Str.ofString " - " else Str.ofString " + ").length = 3 := by split <;> assumption
        refine go_addS (sz (by rw [l3]; omega)) ?_
        walk_at "go"
        refine go_addS (sz (by rw [len_app, l3]; omega)) ?_
        walk_at "go"
        exact ⟨_, _, by rw [foldl_take hb]; rfl, e6.trans (Same.new nT)⟩
      · rintro σ H6 ⟨t6, t7, rfl, e6⟩
        rw [List.take_length]
        walk_at "go"
        exact k H6 (((e3.trans e4).trans e5).trans e6)
  · walk_at "go"
    refine go_con hF2 ?_
    walk_at "go"
    have cat : c ≠ 0 ∨ ts = [] → items c ts = (decide (c < 0), Str.ofString (toString (ab c))) :: ts.map fun t => (decide (t.2 < 0), ptxt t.2 (nmS t.1)) := fun h => by unfold items; rw [if_pos h]; rfl
    have wl := wf.len
    have nt : ∀ {b : Bool}, (b = true) → b = true := fun h => h
    have both : c ≠ 0 ∨ ts = [] → ∀ H3, L2.Same H2 H3 → ∀ R : L2.St → Hp → Prop, (∀ (s1 p1 : Addr) H', L2.Same H H' → H' s1 = some (.lst ((items c ts).map fun t => V.bl t.1)) → H' p1 = some (.lst ((items c ts).map fun t => V.str t.2)) → R [some (.ref p), some (.ref s1), some (.ref p1), none, none, none, none, none] H') → ∀ D : Ends,
        tPar 1 2 (tCons (tOp rCat (tLst (tCons (tOp (rI0 fun i j => .bl (decide (i < j))) (tFldC a.C_Form (tVar 0) "constant") (tC (.int 0))) tNil)) (tVar 1)) (tCons (tOp rCat (tLst (tCons (tCB rStrI (tCons (tCB rAbs (tCons (tFldC a.C_Form (tVar 0) "constant") tNil)) tNil)) tNil)) (tVar 2)) tNil))
        { D with nx := R } [some (.ref p), some (.ref D1), some (.ref D2), none, none, none, none, none] H3 := by
      intro hc H3 e3 R fin D
      have ce := cat hc
      have hF3 := hF2.up e3
      walk_at "go"
      refine go_con hF3 ?_
      walk_at "go"
      walk_at "nw"
      rename_i l1 nl1 H4 e4 hl1
      walk_at "go"
      refine go_cat hl1 (e4 _ _ (e3 _ _ hD1')) (by rw [List.length_map]; show 1 + _ ≤ 1000; omega) fun s1 H5 ns e5 hs => ?_
      walk_at "go"
      refine go_con ((hF3.up e4).up e5) ?_
      walk_at "go"
      refine go_strI (ab_log sm.c) ?_
      walk_at "go"
      walk_at "nw"
      rename_i l2 nl2 H6 e6 hl2
      walk_at "go"
      have e36 := ((e3.trans e4).trans e5).trans e6
      refine go_cat hl2 (e36 _ _ hD2) (by rw [List.length_map]; show 1 + _ ≤ 1000; omega) fun p1 H7 np e7 hp => ?_
      walk_at "go"
      refine fin s1 p1 H7 (((e1.trans e2).trans e36).trans e7) ((e6.trans e7) _ _ ?_) ?_
      · rw [hs, ce, List.map_cons, List.map_map]; rfl
      · rw [hp, ce, List.map_cons, List.map_map]; rfl
    refine go_dn (fun h0 => ?_) (fun h0 => ?_)
    · refine go_T ?_
      exact both (.inl h0) H2 (L2.Same.refl _) _ (fun s1 p1 H' e hs hp => fin _ _ ⟨s1, p1, rfl, e, hs, hp⟩) _
    · walk_at "go"
      walk_at "nw"
      rename_i l nl H3 e3 hl
      have d2 : H3 D2 = some (.lst ((ts.map fun t => ptxt t.2 (nmS t.1)).map V.str)) := by rw [e3 _ _ hD2, List.map_map]; rfl
      refine ⟨_, _, dp_strs (SqL.of d2), .lst (SqL.of hl) .nil, sh_strs (fun x hx => ?_), by rfl, ?_⟩
      · obtain ⟨t, ht, rfl⟩ := List.mem_map.mp hx
        exact ok_ptxt (ok_nmS (wf.rng t ht).2.1)
      · rw [eqv_nil]
        cases ts with
        | nil =>
          refine go_bl ?_
          refine go_T ?_
          exact both (.inr rfl) H3 e3 _ (fun s1 p1 H' e hs hp => fin _ _ ⟨s1, p1, rfl, e, hs, hp⟩) _
        | cons t r =>
          refine go_bl ?_
          refine go_F ?_
          have e : items c (t :: r) = (t :: r).map fun t => (decide (t.2 < 0), ptxt t.2 (nmS t.1)) := by unfold items; rw [if_neg (by rw [h0]; simp)]; rfl
          refine fin _ _ ⟨D1, D2, rfl, (e1.trans e2).trans e3, ?_, ?_⟩
          · rw [e3 _ _ hD1', e, List.map_map]; rfl
          · rw [e3 _ _ hD2, e, List.map_map]; rfl
theorem read_Form___str__ (h : sp_Form___str__ K a vs H Q E) : rd_Form___str__ K a E (ends Q) (start nm_Form___str__ vs) H := by
  obtain ⟨p, c, ts, rfl, hF, sm, k⟩ := h
  have hl : (formText c ts).length ≤ 100000 := by
    have il := items_len hF.2 c
    have it := items_txt sm.c sm.ts
    unfold formText
    obtain ⟨⟨b0, z0⟩, r, er⟩ := items_ne c ts
    rw [er] at il it ⊢
    have l := fold_len r (if b0 = true then Str.ofString "-" ++ z0 else z0) fun q hq => it _ (List.mem_cons_of_mem _ hq)
    have hz : z0.length ≤ 620 := it _ (List.mem_cons_self ..)
    have hm : (Str.ofString "-").length = 1 := by decide +kernel
    have f0 : (if b0 = true then Str.ofString "-" ++ z0 else z0).length ≤ 621 := by
      split
      · rw [len_app, hm]; omega
      · omega
    rw [List.length_cons] at il
    show (r.foldl glue1 (if b0 = true then Str.ofString "-" ++ z0 else z0)).length ≤ 100000
    omega
  unfold rd_Form___str__
  walk_at "go"
  refine ⟨p, c, ts, rfl, hF, sm, fun H' e => ?_⟩
  exact .inl ⟨_, rfl, sz hl, k H' e⟩
theorem putK_new {ks : List Tm} {c : Nat} {n : Int} (h : c ∉ ks.map (·.1)) : putK (kvs ks) (.inr (nmS c)) (.int n) = kvs (ks ++ [(c, n)]) := by
  unfold putK
  rw [if_neg (by
    intro q
    obtain ⟨kv, hkv, e⟩ := List.any_eq_true.mp q
    obtain ⟨t, ht, rfl⟩ := List.mem_map.mp hkv
    have e2 := Sum.inr.inj (of_decide_eq_true e)
    have e3 : (#[t.1] : Array Nat) = #[c] := congrArg Str.cps e2
    have e4 : t.1 = c := by simpa using e3
    exact h (List.mem_map.mpr ⟨t, ht, e4⟩))]
  unfold kvs
  rw [List.map_append]
  rfl
theorem mulT_fst (m : Int) (ts : List Tm) : (mulT m ts).map (·.1) = ts.map (·.1) := by
  unfold mulT
  rw [List.map_map]
  rfl
theorem WF.nodup {ts : List Tm} (h : WF ts) : (ts.map (·.1)).Nodup := List.pairwise_map.mpr (h.srt.imp fun h => by omega)
theorem read_Form___mul__ (F : KF K a) (h : sp_Form___mul__ K a vs H Q E) : rd_Form___mul__ K a E (ends Q) (start nm_Form___mul__ vs) H := by
  obtain ⟨p, c, ts, m, rfl, hF, bc, bt, bm, k⟩ := h
  have wf := hF.2
  unfold rd_Form___mul__
  walk_at "go"
  refine is_int ?_
  walk_at "go"
  refine go_con hF ?_
  walk_at "go"
  refine go_I (bc.cmul bm) ?_
  walk_at "go"
  refine go_trm hF fun tp hT => ?_
  obtain ⟨qs, hq, hr⟩ := hT
  refine ⟨tp, rfl, ⟨_, hq⟩, dc_ext (walk_tup (K := K) (a := tp) (xs := qs.map V.ref)) (fun i ys _ => ys = kvs (mulT m (ts.take i))) (fun i ys _ _ _ r => r) rfl (fun H' e => hq.imm (.of e)) (by rw [List.length_map, hr.len]; have := wf.len; omega) (fun i H x H' y => y.1 ▸ L2.Same.refl _) ?_ ?_ ?_⟩
  · rintro i _ H' hi rfl
    unfold kvs mulT
    rw [List.length_map, List.length_map, List.length_take]
    have := wf.len
    omega
  · rintro i ys x H3 H4 P N hi e3 rfl ⟨rfl, hx⟩ yes _
    obtain ⟨q, c', n, rfl, ht, hq0⟩ := hr.get hx
    refine g_pair (SqT.of (e3 _ _ hq0)) ⟨rfl, ?_⟩
    walk_at "go"
    refine go_I ((bt _ (List.mem_of_getElem? ht)).cmul bm) ?_
    refine yes (.inr (nmS c')) _ _ (L2.Same.refl _) ?_
    rw [putK_new, take_more ht]
    · unfold mulT; rw [List.map_append]; rfl
    · rw [mulT_fst]
      have nd := wf.nodup
      have e : ts.map (·.1) = (ts.take i).map (·.1) ++ (ts.drop i).map (·.1) := by rw [← List.map_append, List.take_append_drop]
      rw [e] at nd
      intro hm
      refine (List.nodup_append.mp nd).2.2 c' hm c' ?_ rfl
      refine List.mem_map.mpr ⟨(c', n), ?_, rfl⟩
      exact List.mem_of_getElem? (i := 0) (by rw [List.getElem?_drop]; exact ht)
  · rintro D ys H3 nD e3 hD rfl
    rw [List.length_map, hr.len, List.take_length] at hD
    walk_at "go"
    refine ⟨c * m, D, mulT m ts, rfl, hD, by rw [mulT_fst]; exact wf.nodup, fun t ht => ?_, ?_, fun q us H4 e4 pu hq => ?_⟩
    · obtain ⟨t', h1, rfl⟩ := List.mem_map.mp ht
      exact ⟨(wf.rng t' h1).1, (wf.rng t' h1).2.1⟩
    · unfold mulT; rw [List.length_map]; have := wf.len; omega
    · have sm : (mulT m ts).Pairwise fun x y => x.1 < y.1 := List.pairwise_map.mpr wf.srt
      have := rise_perm pu hq.2.srt (sm.filter _)
      subst this
      exact k q H4 (e3.trans e4) hq
theorem neg_all {ts : List Tm} (wf : WF ts) : (mulT (-1) ts).filter (fun t => t.2 ≠ 0) = mulT (-1) ts := by
  refine List.filter_eq_self.mpr fun t ht => ?_
  obtain ⟨t', h1, rfl⟩ := List.mem_map.mp ht
  have := (wf.rng t' h1).2.2
  refine decide_eq_true ?_
  show t'.2 * -1 ≠ 0
  omega
theorem read_Form___neg__ (h : sp_Form___neg__ K a vs H Q E) : rd_Form___neg__ K a E (ends Q) (start nm_Form___neg__ vs) H := by
  obtain ⟨p, c, ts, rfl, hF, bc, bt, k⟩ := h
  have wf := hF.2
  unfold rd_Form___neg__
  walk_at "go"
  obtain ⟨⟨dx, tp, hp, _⟩, _⟩ := id hF
  refine go_ownI hp ?_
  refine ⟨p, c, ts, -1, rfl, hF, bc, bt, Bd.small (by decide) (by decide) (by decide), fun q H' e hq => ?_⟩
  rw [neg_all wf] at hq
  exact k q H' e hq
end
end SL

set_option Elab.async false
set_option linter.all false
set_option maxRecDepth 100000
set_option maxHeartbeats 4000000
namespace SL
open PySem L2 PySem.Spec PyProof.Rows

/-! ### the bag that a law draws from -/
def BagAt (H : Hp) (b : Addr) : Prop := ∃ f s c : Int, H b = some (.lst [.int f, .int s, .int c])
/-- all but the bag stays -/
structure Grow (b : Addr) (H H' : Hp) : Prop where
  b0 : BagAt H b
  b1 : BagAt H' b
  keep : ∀ p o, p ≠ b → H p = some o → H' p = some o
theorem Grow.trans {b : Addr} {H H1 H2 : Hp} (x : Grow b H H1) (y : Grow b H1 H2) : Grow b H H2 := ⟨x.b0, y.b1, fun p o n h => y.keep p o n (x.keep p o n h)⟩
theorem Grow.same {b : Addr} {H H' : Hp} (h : BagAt H b) (e : L2.Same H H') : Grow b H H' := ⟨h, let ⟨f, s, c, q⟩ := h; ⟨f, s, c, e _ _ q⟩, fun p o _ q => e p o q⟩
theorem Grow.refl {b : Addr} {H : Hp} (h : BagAt H b) : Grow b H H := .same h (L2.Same.refl H)
theorem Grow.tup {b : Addr} {H H' : Hp} {p : Addr} {xs : List V} (g : Grow b H H') (h : H p = some (.tup xs)) : H' p = some (.tup xs) := by
  obtain ⟨f, s, c, q⟩ := g.b0
  exact g.keep p _ (ne_of h q (by intro z; cases z)) h
theorem Grow.ins {b : Addr} {H H' : Hp} {p C dx : Addr} {fs : List (Str × V)} (g : Grow b H H') (h : H p = some (.ins C dx fs)) : H' p = some (.ins C dx fs) := by
  obtain ⟨f, s, c, q⟩ := g.b0
  exact g.keep p _ (ne_of h q (by intro z; cases z)) h
theorem Grow.free {b : Addr} {H H' : Hp} {p : Addr} (g : Grow b H H') (h : H' p = none) : H p = none := by
  cases e : H p with
  | none => rfl
  | some o =>
    by_cases n : p = b
    · subst n
      obtain ⟨f, s, c, q⟩ := g.b1
      rw [q] at h; cases h
    · rw [g.keep p o n e] at h; cases h
theorem Grow.rat {a : Cl} {b : Addr} {H H' : Hp} {p : Addr} {n d : Int} (g : Grow b H H') (h : RatAt a H p n d) : RatAt a H' p n d := let ⟨dx, e⟩ := h; ⟨dx, g.ins e⟩
theorem Grow.lst {b : Addr} {H H' : Hp} {p : Addr} {xs : List V} (g : Grow b H H') (n : p ≠ b) (h : H p = some (.lst xs)) : H' p = some (.lst xs) := g.keep p _ n h
theorem BagAt.up {H H' : Hp} {b : Addr} (e : L2.Same H H') (h : BagAt H b) : BagAt H' b := let ⟨f, s, c, q⟩ := h; ⟨f, s, c, e _ _ q⟩
theorem BagAt.ne {H : Hp} {b p : Addr} (h : BagAt H b) (n : H p = none) : p ≠ b := by
  obtain ⟨f, s, c, q⟩ := h
  exact fun e => by subst e; rw [q] at n; cases n
/-- a sequence's items: a list, a tuple, a text sign by sign -/
inductive Sq (K : PySem.W.Frag) (H : Hp) : V → List V → Prop where
  | lst {p : Addr} {xs : List V} (h : SqL K H p xs) : Sq K H (.ref p) xs
  | tup {p : Addr} {xs : List V} (h : SqT K H p xs) : Sq K H (.ref p) xs
  | str (z : Str) (h : z.length ≤ 100000) : Sq K H (.str z) (z.cps.toList.map fun c => .str ⟨#[c]⟩)

/-! ### the promises of the common helpers -/
def sp__law_bag (K : PySem.W.Frag) (a : Cl) : Sp := fun vs H Q _ => ∃ (p : Addr) (ns : List Int) (k : Nat), vs = [.ref p, .int k] ∧ SqL K H p (ns.map V.int) ∧ ∀ b H', H b = none → L2.Same H H' → BagAt H' b → Q (.ref b) H'
def sp__law_draw (K : PySem.W.Frag) (a : Cl) : Sp := fun vs H Q _ => ∃ (b : Addr) (w : Int), vs = [.ref b, .int w] ∧ BagAt H b ∧ 0 < w ∧ Bd 8000 w ∧ ∀ r H', 0 ≤ r → r < w → Grow b H H' → Q (.int r) H'
def sp__law_one (K : PySem.W.Frag) (a : Cl) : Sp := fun vs H Q _ => ∃ (b : Addr) (v : V) (xs : List V), vs = [.ref b, v] ∧ BagAt H b ∧ Sq K H v xs ∧ (∀ H', Grow b H H' → Sq K H' v xs) ∧ xs ≠ [] ∧ xs.length ≤ 1000 ∧ ∀ x H', x ∈ xs → Grow b H H' → Q x H'
/-- lowest terms with the lower number's sign turned away -/
def lowN (n d : Int) : Int := if 0 < d then nm n d else nm (-n) (-d)
def lowD (n d : Int) : Int := if 0 < d then dn n d else dn (-n) (-d)
def sp__law_lowest (K : PySem.W.Frag) (a : Cl) : Sp := fun vs H Q _ => ∃ n d : Int, vs = [.int n, .int d] ∧ d ≠ 0 ∧ Bd 8000 d ∧ ∀ p H', H p = none → L2.Same H H' → H' p = some (.tup [.int (lowN n d), .int (lowD n d)]) → Q (.ref p) H'
abbrev nm__law_bag : List Str := ["_law_cells", "_law_k", "_law_cell", "_law_seed", "_law_this", "_law_figures"]
def rd__law_bag (K : PySem.W.Frag) (a : Cl) (E : XK) : TS := (tSeq (tPar 2 3 (tCons (tIf (tTest (tOp (rI0 fun i j => .bl (decide (i < j))) (tVar 1) (tCB (rLen K) (tCons (tVar 0) tNil)))) (tCB rInt1 (tCons (tOp (rIxL K) (tVar 0) (tVar 1)) tNil)) (tC (.int 0))) (tCons (tOp (rI IntMulOk fun i j => .int (i * j)) (tC (.int 50021)) (tOp (rI0 fun i j => .int (i + j)) (tVar 1) (tC (.int 7)))) tNil)))
  (tSeq (tFor (iList K (tSl (rSlL K) (tVar 0) tNoPart (tPart (tC (.int 7))))) (gName 4) (tAsg (tOp (rI (fun _ j => j ≠ 0) fun i j => .int (i.fmod j)) (tCB rInt1 (tCons (tOp (rI0 fun i j => .int (i + j)) (tOp (rI0 fun i j => .int (i + j)) (tOp (rI IntMulOk fun i j => .int (i * j)) (tVar 3) (tC (.int 27449))) (tOp (rI (fun _ j => j ≠ 0) fun i j => .int (i.fmod j)) (tCB rInt1 (tCons (tVar 4) tNil)) (tC (.int 1000081)))) (tOp (rI IntMulOk fun i j => .int (i * j)) (tC (.int 13)) (tVar 1))) tNil)) (tC (.int 2147483563))) (gName 3)))
  (tSeq (tAsg (tIf (tOr (tTest (tOp (rI0 fun i j => .bl (decide (i < j))) (tVar 2) (tC (.int 0)))) (tTest (tOp (rI0 fun i j => .bl (decide (j ≤ i))) (tVar 2) (tOp (rI CPow fun i j => .int (i ^ j.toNat)) (tC (.int 10)) (tC (.int 15)))))) (tCB rAbs (tCons (tVar 2) tNil)) (tC (.int 0))) (gName 5))
  (tRet (tLst (tCons (tVar 5) (tCons (tOp (rI (fun _ j => j ≠ 0) fun i j => .int (i.fmod j)) (tCB rInt1 (tCons (tOp (rI0 fun i j => .int (i + j)) (tVar 3) (tOp (rI IntMulOk fun i j => .int (i * j)) (tC (.int 39119)) (tOp (rI (fun _ j => j ≠ 0) fun i j => .int (i.fmod j)) (tCB rInt1 (tCons (tVar 2) tNil)) (tC (.int 999907))))) tNil)) (tC (.int 2147483563))) (tCons (tC (.int 0)) tNil))))))))
abbrev nm__law_draw : List Str := ["_law_bag_here", "_law_wide", "_law_figure", "_law_held", "_law_times"]
def rd__law_draw (K : PySem.W.Frag) (a : Cl) (E : XK) : TS := (tSeq (tAsg (tOp (rI0 fun i j => .int (i + j)) (tOp (rIxL K) (tVar 0) (tC (.int 2))) (tC (.int 1))) (gSub (tVar 0) (tC (.int 2)) rSetL))
  (tSeq (tIfS (tTest (tOp (rI0 fun i j => .bl (decide (j < i))) (tOp (rIxL K) (tVar 0) (tC (.int 0))) (tC (.int 0)))) (tSeq (tAsg (tOp (rI (fun _ j => j ≠ 0) fun i j => .int (i.fmod j)) (tCB rInt1 (tCons (tOp (rIxL K) (tVar 0) (tC (.int 0))) tNil)) (tVar 1)) (gName 2))
  (tSeq (tAsg (tOp (rI CDivX fun i j => .int (i.fdiv j)) (tOp (rIxL K) (tVar 0) (tC (.int 0))) (tVar 1)) (gSub (tVar 0) (tC (.int 0)) rSetL))
  (tRet (tVar 2)))) tNext)
  (tSeq (tAsg (tOp (rI0 fun i j => .int (i + j)) (tCB rInt1 (tCons (tOp (rIxL K) (tVar 0) (tC (.int 1))) tNil)) (tOp (rI IntMulOk fun i j => .int (i * j)) (tC (.int 104593)) (tOp (rIxL K) (tVar 0) (tC (.int 2))))) (gName 3))
  (tSeq (tAsg (tOp (rI0 fun i j => .int (i + j)) (tOp (rI (fun _ j => j ≠ 0) fun i j => .int (i.fmod j)) (tCB rInt1 (tCons (tVar 3) tNil)) (tC (.int 59951))) (tC (.int 40031))) (gName 4))
  (tSeq (tAsg (tOp (rI (fun _ j => j ≠ 0) fun i j => .int (i.fmod j)) (tCB rInt1 (tCons (tOp (rI0 fun i j => .int (i + j)) (tOp (rI0 fun i j => .int (i + j)) (tOp (rI IntMulOk fun i j => .int (i * j)) (tVar 3) (tVar 4)) (tOp (rI IntMulOk fun i j => .int (i * j)) (tC (.int 11)) (tOp (rIxL K) (tVar 0) (tC (.int 2))))) (tC (.int 17))) tNil)) (tC (.int 2147483563))) (gSub (tVar 0) (tC (.int 1)) rSetL))
  (tRet (tOp (rI (fun _ j => j ≠ 0) fun i j => .int (i.fmod j)) (tOp (rI CDivX fun i j => .int (i.fdiv j)) (tCB rInt1 (tCons (tOp (rIxL K) (tVar 0) (tC (.int 1))) tNil)) (tC (.int 523))) (tVar 1))))))))
abbrev nm__law_one : List Str := ["_law_bag_here", "_law_some"]
def rd__law_one (K : PySem.W.Frag) (a : Cl) (E : XK) : TS := (tRet (tOp (rIx K) (tVar 1) (tCall (sp__law_draw K a) [] E (tCons (tVar 0) (tCons (tCB (rLen K) (tCons (tVar 1) tNil)) tNil)))))
abbrev nm__law_lowest : List Str := ["_law_upper", "_law_lower", "_law_one_here", "_law_two", "_law_by"]
def rd__law_lowest (K : PySem.W.Frag) (a : Cl) (E : XK) : TS := (tSeq (tPar 2 3 (tCons (tCB rAbs (tCons (tVar 0) tNil)) (tCons (tCB rAbs (tCons (tVar 1) tNil)) tNil)))
  (tSeq (tWhile (tTest (tOp (rI0 fun i j => .bl (decide (j < i))) (tVar 3) (tC (.int 0)))) (tPar 2 3 (tCons (tVar 3) (tCons (tOp (rI (fun _ j => j ≠ 0) fun i j => .int (i.fmod j)) (tCB rInt1 (tCons (tVar 2) tNil)) (tVar 3)) tNil))))
  (tSeq (tAsg (tIf (tTest (tOp (rI0 fun i j => .bl (decide (j < i))) (tVar 1) (tC (.int 0)))) (tVar 2) (tOp (rI0 fun i j => .int (i - j)) (tC (.int 0)) (tVar 2))) (gName 4))
  (tRet (tTup (tCons (tOp (rI CDivX fun i j => .int (i.fdiv j)) (tVar 0) (tVar 4)) (tCons (tOp (rI CDivX fun i j => .int (i.fdiv j)) (tVar 1) (tVar 4)) tNil)))))))
local macro_rules | `(tactic| walk_at "up") => `(tactic| first | assumption | exact upd_same | (apply SL.RatAt.up; assumption; walk_at "up") | (apply SL.Same.at; assumption; walk_at "up"))
local macro_rules | `(tactic| walk_at "s0") => `(tactic| first
  | with_reducible refine SL.go_var (by with_unfolding_all rfl) ?_
  | with_reducible refine SL.go_seq ?_
  | with_reducible refine SL.go_next ?_
  | with_reducible refine SL.go_asg ?_
  | with_reducible refine SL.go_gname ?_
  | with_reducible refine SL.go_ret ?_
  | with_reducible refine SL.go_drop ?_
  | with_reducible refine SL.go_ifs ?_
  | with_reducible refine SL.go_c ?_
  | with_reducible refine SL.go_op ?_
  | with_reducible refine SL.go_un ?_
  | with_reducible refine SL.go_I0 ?_
  | with_reducible refine SL.go_U ?_
  | with_reducible refine SL.go_test ?_
  | with_reducible refine SL.go_tb ?_
  | with_reducible refine SL.go_bl ?_
  | with_reducible refine SL.go_eqI ?_
  | with_reducible refine SL.go_neI ?_
  | with_reducible refine SL.go_eqB ?_
  | with_reducible refine SL.go_neB ?_
  | with_reducible refine SL.go_eqS ?_
  | with_reducible refine SL.go_neS ?_
  | with_reducible refine SL.go_and ?_
  | with_reducible refine SL.go_or ?_
  | with_reducible refine SL.go_not ?_
  | with_reducible refine SL.go_andV ?_
  | with_reducible refine SL.go_orV ?_
  | with_reducible refine SL.go_notV ?_
  | with_reducible refine SL.go_if ?_
  | with_reducible refine SL.go_T ?_
  | with_reducible refine SL.go_F ?_
  | with_reducible refine SL.go_nT ?_
  | with_reducible refine SL.go_nF ?_
  | with_reducible refine SL.go_nil ?_
  | with_reducible refine SL.go_cons ?_
  | with_reducible refine SL.go_call ?_
  | with_reducible refine SL.go_cb ?_
  | with_reducible refine SL.go_par ?_
  | with_reducible refine SL.go_pair ?_
  | with_reducible refine SL.go_tup ?_
  | with_reducible refine SL.go_lst ?_
  | with_reducible refine SL.go_fldC ?_
  | with_reducible refine SL.go_sfld ?_
  | with_reducible refine SL.go_sub ?_
  | with_reducible refine SL.go_sl ?_
  | with_reducible refine SL.go_noPart ?_
  | with_reducible refine SL.go_part ?_
  | with_reducible refine SL.go_partE ?_
  | with_reducible refine SL.go_abs ?_
  | with_reducible refine SL.go_max2 ?_
  | with_reducible refine SL.go_min2 ?_
  | with_reducible refine SL.go_int ?_
  | with_reducible refine SL.go_intB ?_
  | with_reducible refine SL.go_bm ?_
  | with_reducible refine SL.go_meth ?_
  | with_reducible refine SL.go_methN ?_
  | with_reducible refine SL.go_make ?_
  | with_reducible refine SL.go_makeK ?_
  | with_reducible refine SL.go_for ?_
  | with_reducible refine SL.go_iList ?_
  | with_reducible refine SL.go_iTup ?_
  | with_reducible refine SL.go_iRng1 ?_
  | with_reducible refine SL.go_iRng2 ?_
  | with_reducible refine SL.go_lc ?_
  | with_reducible refine SL.go_yes ?_
  | with_reducible refine SL.go_chain ?_
  | with_reducible refine SL.go_j ?_
  | with_reducible refine SL.go_js0 ?_
  | with_reducible refine SL.go_js ?_
  | with_reducible refine SL.go_fmt ?_
  | with_reducible refine SL.go_m1 ?_
  | with_reducible refine SL.go_ltS ?_
  | with_reducible refine SL.go_leS ?_
  | with_reducible refine SL.go_strS ?_
  | with_reducible refine SL.go_iStr ?_
  | with_reducible refine SL.go_iZip ?_
  | with_reducible refine SL.go_iKeys ?_
  | with_reducible refine SL.go_dget ?_
  | with_reducible refine SL.go_dc ?_)
local macro_rules | `(tactic| walk_at "go") => `(tactic| repeat walk_at "s0")
local macro_rules | `(tactic| walk_at "nw") => `(tactic| (refine ⟨SL.szL (by simp), fun p n => ?_⟩; generalize q : upd _ p _ = H'; have e := SL.Same.new' n q; have h := SL.at_new q; clear q))
local macro_rules | `(tactic| walk_at "nw0") => `(tactic| (intro p n; generalize q : upd _ p _ = H'; have e := SL.Same.new' n q; have h := SL.at_new q; clear q))
section
variable {K : PySem.W.Frag} {a : Cl} {vs : List V} {H : Hp} {Q : VK} {E : XK}
theorem mulL {i j : Int} (h : -(2 ^ 64) < i ∧ i < 2 ^ 64) : IntMulOk i j := CMul.ok (.inl h)
theorem mulR {i j : Int} (h : -(2 ^ 64) < j ∧ j < 2 ^ 64) : IntMulOk i j := CMul.ok (.inr h)
theorem Bd.cdiv {x w : Int} {k : Nat} (h : w ≠ 0) (hb : Bd k w) (h0 : 0 < k := by decide) (hk : k ≤ 9000 := by decide) : CDivX x w := ⟨h, Nat.lt_of_lt_of_le (PySem.Flt.log2_lt_of h0 hb) hk⟩
theorem fmod_nn {x w : Int} (h : 0 < w) : 0 ≤ x.fmod w ∧ x.fmod w < w := by
  rw [Int.fmod_eq_emod_of_nonneg x (by omega)]
  exact ⟨Int.emod_nonneg x (by omega), Int.emod_lt_of_pos x h⟩
theorem read__law_draw (h : sp__law_draw K a vs H Q E) : rd__law_draw K a E (ends Q) (start nm__law_draw vs) H := by
  obtain ⟨b, w, rfl, ⟨f, s, c, hb⟩, hw, hbw, k⟩ := h
  have fin : ∀ r f' s' c' : Int, 0 ≤ r → r < w → Q (.int r) (upd H b (.lst [.int f', .int s', .int c'])) := fun r f' s' c' h0 h1 =>
    k r _ h0 h1 ⟨⟨f, s, c, hb⟩, ⟨f', s', c', upd_same⟩, fun p o n e => by rw [upd_ne n]; exact e⟩
  unfold rd__law_draw
  walk_at "go"
  refine go_ixL (SqL.of hb) rfl ?_
  walk_at "go"
  refine go_setL hb rfl ?_
  walk_at "go"
  refine go_ixL (SqL.of upd_same) rfl ?_
  walk_at "go"
  refine go_d (fun hf => ?_) (fun hf => ?_)
  · walk_at "go"
    refine go_ixL (SqL.of upd_same) rfl ?_
    walk_at "go"
    refine go_I (by omega) ?_
    walk_at "go"
    refine go_ixL (SqL.of upd_same) rfl ?_
    walk_at "go"
    refine go_I (hbw.cdiv (by omega)) ?_
    walk_at "go"
    refine go_setL upd_same rfl ?_
    walk_at "go"
    rw [upd_upd]
    exact fin _ _ _ _ (fmod_nn hw).1 (fmod_nn hw).2
  · walk_at "go"
    refine go_ixL (SqL.of upd_same) rfl ?_
    walk_at "go"
    refine go_ixL (SqL.of upd_same) rfl ?_
    refine go_I (mulL ⟨by decide, by decide⟩) ?_
    walk_at "go"
    refine go_I (by decide) ?_
    walk_at "go"
    have hm := fmod_nn (x := s + 104593 * (c + 1)) (w := 59951) (by decide)
    refine go_I (mulR ⟨by omega, by omega⟩) ?_
    walk_at "go"
    refine go_ixL (SqL.of upd_same) rfl ?_
    refine go_I (mulL ⟨by decide, by decide⟩) ?_
    walk_at "go"
    refine go_I (by decide) ?_
    walk_at "go"
    refine go_setL upd_same rfl ?_
    walk_at "go"
    refine go_ixL (SqL.of upd_same) rfl ?_
    walk_at "go"
    refine go_I (Bd.cdiv (k := 64) (by decide) (Bd.small (by decide) (by decide) (by decide))) ?_
    walk_at "go"
    refine go_I (by omega) ?_
    rw [upd_upd]
    exact fin _ _ _ _ (fmod_nn hw).1 (fmod_nn hw).2
theorem atI_some {α : Type} {xs : List α} {r : Int} (h0 : 0 ≤ r) (h1 : r < xs.length) : ∃ x, atI xs r = some x ∧ x ∈ xs := by
  obtain ⟨j, rfl⟩ : ∃ j : Nat, r = j := ⟨r.toNat, by omega⟩
  have hl : j < xs.length := by omega
  exact ⟨xs[j], atI_nat (List.getElem?_eq_getElem hl), List.getElem_mem hl⟩
theorem read__law_one (h : sp__law_one K a vs H Q E) : rd__law_one K a E (ends Q) (start nm__law_one vs) H := by
  obtain ⟨b, v, xs, rfl, hb, hs, hs', hne, hl, k⟩ := h
  have hpos : 0 < xs.length := by
    cases xs with
    | nil => exact absurd rfl hne
    | cons x r => simp
  unfold rd__law_one
  walk_at "go"
  have len : ∀ R : VK, R (.int xs.length) H → rLen K [v] H R := fun R r => by
    cases hs with
    | lst h => exact go_lenL h r
    | tup h => exact go_lenT h r
    | str z h => exact go_lenS (Nat.le_trans h (by decide)) (by simpa [Str.length] using r)
  refine len _ ?_
  walk_at "go"
  refine ⟨b, xs.length, rfl, hb, by omega, Bd.small (by decide) (by omega) (by omega), fun r H1 h0 h1 g => ?_⟩
  have hs1 := hs' H1 g
  cases hs1 with
  | lst h =>
    obtain ⟨x, e, hm⟩ := atI_some h0 h1
    exact .inl (go_ixL h e (k x H1 hm g))
  | tup h =>
    obtain ⟨x, e, hm⟩ := atI_some h0 h1
    exact .inr (.inl (go_ixT h e (k x H1 hm g)))
  | str z h =>
    rw [List.length_map] at h1
    obtain ⟨x, e, hm⟩ := atI_some h0 h1
    exact .inr (.inr ⟨z, r, x, rfl, rfl, Nat.le_trans h (by decide), e, k _ H1 (List.mem_map.mpr ⟨x, hm, rfl⟩) g⟩)
theorem lowN_eq {n d g : Int} (hd : d ≠ 0) (hg : g = gI n d) : n.fdiv (if 0 < d then g else 0 - g) = lowN n d ∧ d.fdiv (if 0 < d then g else 0 - g) = lowD n d := by
  have g0 := gI_pos (n := n) hd
  have e : gI (-n) (-d) = gI n d := by unfold gI; simp
  subst hg
  unfold lowN lowD
  split
  · rw [Int.fdiv_eq_ediv_of_nonneg n (by omega), Int.fdiv_eq_ediv_of_nonneg d (by omega)]
    exact ⟨rfl, rfl⟩
  · unfold nm dn
    rw [e]
    have q : ∀ x : Int, gI n d ∣ x → x.fdiv (0 - gI n d) = -x / gI n d := fun x hx => by
      rw [Int.zero_sub, Int.fdiv_eq_ediv_of_dvd (Int.neg_dvd.mpr hx), Int.ediv_neg, Int.neg_ediv_of_dvd hx]
    exact ⟨q n (gI_dvd_left n d), q d (gI_dvd_right n d)⟩
theorem read__law_lowest (h : sp__law_lowest K a vs H Q E) : rd__law_lowest K a E (ends Q) (start nm__law_lowest vs) H := by
  obtain ⟨n, d, rfl, hd, hb, k⟩ := h
  unfold rd__law_lowest
  walk_at "go"
  refine ⟨fun m σ H' => ∃ x y : Int, σ = [some (.int n), some (.int d), some (.int x), some (.int y), none] ∧ H' = H ∧ 0 ≤ x ∧ 0 ≤ y ∧ gI x y = gI n d ∧ m = y.toNat, ⟨_, _, _, rfl, rfl, by split <;> omega, by split <;> omega, gI_abs n d, rfl⟩, ?_⟩
  rintro m σ H' ⟨x, y, rfl, rfl, hx, hy, hg, rfl⟩
  walk_at "go"
  refine go_d (fun hy0 => ?_) (fun hy0 => ?_)
  · refine ⟨fun σ' H'' => ∃ m', m' < y.toNat ∧ ∃ x y : Int, σ' = [some (.int n), some (.int d), some (.int x), some (.int y), none] ∧ H'' = H' ∧ 0 ≤ x ∧ 0 ≤ y ∧ gI x y = gI n d ∧ m' = y.toNat, fun _ _ h => h, ?_⟩
    walk_at "go"
    refine go_I (by omega) ?_
    walk_at "go"
    have e : x.fmod y = x % y := Int.fmod_eq_emod_of_nonneg x (by omega)
    have l1 := Int.emod_nonneg x (show y ≠ 0 by omega)
    have l2 := Int.emod_lt_of_pos x hy0
    refine ⟨(x.fmod y).toNat, by omega, y, x.fmod y, rfl, rfl, hy, by omega, ?_, rfl⟩
    rw [gcd_turn hx hy0]
    exact hg
  · walk_at "go"
    have e : y = 0 := by omega
    subst e
    rw [gI_zero hx] at hg
    have key : ∀ (R : V → Hp → Prop), R (.int (if 0 < d then x else 0 - x)) H' → (if decide (0 < d) = true then tVar 2 ([some (.int n), some (.int d), some (.int x), some (.int 0), none] : L2.St) H' R else tOp (rI0 fun i j => .int (i - j)) (tC (.int 0)) (tVar 2) ([some (.int n), some (.int d), some (.int x), some (.int 0), none] : L2.St) H' R) := fun R r => by
      refine go_d (fun e => ?_) (fun e => ?_)
      · rw [if_pos e] at r; walk_at "go"; exact r
      · rw [if_neg e] at r
        walk_at "go"
        exact r
    refine key _ ?_
    have g0 := gI_pos (n := n) hd
    have gd : (gI n d).natAbs ≤ d.natAbs := by
      have h1 : gI n d ∣ d := gI_dvd_right n d
      exact Nat.le_of_dvd (by omega) (Int.natAbs_dvd_natAbs.mpr h1)
    have c : ∀ z, CDivX z (if 0 < d then x else 0 - x) := fun z => Bd.cdiv (k := 8000) (by split <;> omega) (hb.of_le (by split <;> omega))
    have le := lowN_eq hd hg
    walk_at "go"
    refine go_I (c n) ?_
    walk_at "go"
    refine go_I (c d) ?_
    walk_at "go"
    rw [le.1, le.2]
    exact go_newT (by show 2 ≤ 1000; decide) k
theorem cutV_len (xs : List V) (lo hi : Option Int) (i : Nat) (v : V) (h : (cutV xs lo hi)[i]? = some v) : v ∈ xs := by
  have m := List.mem_of_getElem? h
  unfold cutV at m
  exact List.mem_of_mem_drop (List.mem_of_mem_take m)
theorem read__law_bag (h : sp__law_bag K a vs H Q E) : rd__law_bag K a E (ends Q) (start nm__law_bag vs) H := by
  obtain ⟨p, ns, k, rfl, hp, q⟩ := h
  unfold rd__law_bag
  walk_at "go"
  refine go_lenL hp ?_
  walk_at "go"
  refine go_join (P := fun v => ∃ z : Int, v = .int z) (fun e R r => ?_) (fun e R r => ?_) ?_
  · have e := of_decide_eq_true e
    obtain ⟨x, e1, e2⟩ := atI_some (xs := ns.map V.int) (r := (k : Int)) (by omega) e
    obtain ⟨z, _, rfl⟩ := List.mem_map.mp e2
    walk_at "go"
    refine go_ixL hp e1 ?_
    walk_at "go"
    exact r _ ⟨z, rfl⟩
  · exact r _ ⟨0, rfl⟩
  rintro _ ⟨cell, rfl⟩
  walk_at "go"
  refine go_I (mulL ⟨by decide, by decide⟩) ?_
  walk_at "go"
  refine go_slL hp fun l H1 nl e1 hl => ?_
  refine ⟨l, rfl, ⟨_, SqL.of hl⟩, for_list (K := K) (a := l) (xs := cutV (ns.map V.int) none (some 7)) (fun _ σ H2 => ∃ (z : Int) (t : Option V), σ = [some (.ref p), some (.int k), some (.int cell), some (.int z), t, none] ∧ H2 = H1) ⟨_, none, rfl, rfl⟩ ?_ ?_ ?_⟩
  · rintro i σ H2 _ ⟨z, t, rfl, rfl⟩
    exact SqL.of hl
  · rintro i x σ H2 hx ⟨z, t, rfl, rfl⟩
    obtain ⟨y, _, rfl⟩ := List.mem_map.mp (cutV_len _ _ _ _ _ hx)
    walk_at "go"
    refine go_I (mulR ⟨by decide, by decide⟩) ?_
    walk_at "go"
    refine go_I (by decide) ?_
    walk_at "go"
    refine go_I (mulL ⟨by decide, by decide⟩) ?_
    walk_at "go"
    refine go_I (by decide) ?_
    walk_at "go"
    exact ⟨_, _, rfl, rfl⟩
  · rintro σ H2 ⟨z, t, rfl, rfl⟩
    walk_at "go"
    refine go_d (fun e => ?_) (fun e => ?_)
    rotate_left
    walk_at "go"
    refine go_I ⟨by decide, by decide, by decide⟩ ?_
    walk_at "go"
    refine go_d (fun e => ?_) (fun e => ?_)
    all_goals
      walk_at "go"
      refine go_I (by decide) ?_
      refine go_I (mulL ⟨by decide, by decide⟩) ?_
      walk_at "go"
      refine go_I (by decide) ?_
      walk_at "go"
      exact go_newL (by show 3 ≤ 1000; decide) fun b H3 nb e3 hb => q b H3 (e1.free nb) (L2.Same.trans e1 e3) ⟨_, _, _, hb⟩
/-! ### equal data -/
theorem ne_same {x y : V} {d : PyData} (hx : Dp K H x d) (hy : Dp K H y d) (hs : SeqAt.shaped d = true) (q : Q (.bl false) H) : rNeD K x y H Q := by
  refine ⟨d, d, hx, hy, hs, hs, ?_⟩
  rw [SeqAt.eqv_refl d (SeqAt.canLay_of_shaped hs)]
  exact q
theorem eq_same {x y : V} {d : PyData} (hx : Dp K H x d) (hy : Dp K H y d) (hs : SeqAt.shaped d = true) (q : Q (.bl true) H) : rEqD K x y H Q := by
  refine ⟨d, d, hx, hy, hs, hs, ?_⟩
  rw [SeqAt.eqv_refl d (SeqAt.canLay_of_shaped hs)]
  exact q
theorem dp_pair {p : Addr} {n d : Int} (h : H p = some (.tup [.int n, .int d])) : Dp K H (.ref p) (.tuple [.int n, .int d]) := .tup (SqT.of h) (.cons (.int n) (.cons (.int d) .nil))
theorem sh_pair (n d : Int) : SeqAt.shaped (.tuple [.int n, .int d]) = true := by rfl
theorem Grow.imm {b : Addr} {H H' : Hp} (g : Grow b H H') : Imm H H' := fun p o n1 _ _ h => by
  obtain ⟨f, s, c, q⟩ := g.b0
  exact g.keep p o (fun e => by subst e; rw [h] at q; cases q; exact n1 _ rfl) h
/-- one of some values in a new list -/
theorem one_ints {b p : Addr} {xs : List V} {R : VK} (hb : BagAt H b) (n : p ≠ b) (hp : H p = some (.lst xs)) (hne : xs ≠ []) (hl : xs.length ≤ 1000) (k : ∀ x H', x ∈ xs → Grow b H H' → R x H') : sp__law_one K a ([.ref b, .ref p] ++ []) H R E :=
  ⟨b, .ref p, xs, rfl, hb, .lst (SqL.of hp), fun H' g => .lst (SqL.of (g.lst n hp)), hne, hl, k⟩
theorem draw_of {b : Addr} {w : Int} {R : VK} (hb : BagAt H b) (h0 : 0 < w) (h1 : w ≤ 1000000000000) (k : ∀ r H', 0 ≤ r → r < w → Grow b H H' → R (.int r) H') : sp__law_draw K a ([.ref b, .int w] ++ []) H R E :=
  ⟨b, w, rfl, hb, h0, Bd.small (by decide) (by omega) h1, k⟩
/-- the last row of each law: every bag is right -/
theorem law_all {i : Nat} {σ : L2.St} {sp : Sp} {p : Addr} {ns : List Int} (h0 : i ≠ 0) (hi : i < σ.length) (hσ : σ[0]? = some (some (.ref p))) (hp : SqL K H p (ns.map V.int)) (hl : ns.length ≤ 63)
    (hR : ∀ b (H : Hp) (R : VK), BagAt H b → (∀ H', Grow b H H' → R (.bl true) H') → sp [.ref b] H R E0) (k : ∀ H', Q (.bl true) H') :
    (tRet (tCB (rAll K) (tCons (tLc (iRng1 (tCons (tCB rMax2 (tCons (tC (.int 2)) (tCons (tCB rMin2 (tCons (tCB (rLen K) (tCons (tVar 0) tNil)) (tCons (tC (.int 6)) tNil))) tNil))) tNil)) (gName i) tYes (tCall sp [] E0 (tCons (tCall (sp__law_bag K a) [] E0 (tCons (tVar 0) (tCons (tVar i) tNil))) tNil)) [i]) tNil))) (ends Q) σ H := by
  walk_at "go"
  refine go_var hσ ?_
  walk_at "go"
  refine go_lenL hp ?_
  walk_at "go"
  have lz : (List.map V.int ns).length = ns.length := List.length_map _
  rw [lz]
  have nb : ∀ n : Int, n = (if (if (6 : Int) < ns.length then 6 else (ns.length : Int)) > 2 then (if (6 : Int) < ns.length then 6 else (ns.length : Int)) else 2) → 2 ≤ n ∧ n ≤ 6 := by
    intro n e
    split at e <;> split at e <;> omega
  generalize hn : (if (if (6 : Int) < ns.length then 6 else (ns.length : Int)) > 2 then (if (6 : Int) < ns.length then 6 else (ns.length : Int)) else 2) = n
  obtain ⟨n2, n6⟩ := nb n hn.symm
  have w0 : (wipe σ [i])[0]? = some (some (.ref p)) := by
    show (σ.set i none)[0]? = _
    rw [List.getElem?_set_ne (by omega)]
    exact hσ
  have wl : i < (wipe σ [i]).length := by show i < (σ.set i none).length; rw [List.length_set]; exact hi
  refine ⟨n, rfl, by omega, by omega, fun D hD => ?_⟩
  refine lc_range (lo := 0) (n := n.toNat) (fun j H' => L2.Same H H' ∧ H' D = some (.lst ((List.replicate j true).map V.bl))) ⟨Same.new hD, upd_same⟩ ?_ ?_
  · rintro j H8 hj ⟨e8, hD8⟩
    refine go_gname ?_
    refine ⟨by show ((wipe σ [i]).set i _).set i none = (σ.set i none); show ((σ.set i none).set i _).set i none = _; rw [List.set_set, List.set_set], ?_⟩
    walk_at "go"
    refine go_var (v := .ref p) (by rw [List.getElem?_set_ne h0]; exact w0) ?_
    walk_at "go"
    refine go_var (v := .int (0 + (j : Int))) (by rw [List.getElem?_set_self wl]) ?_
    walk_at "go"
    refine ⟨p, ns, j, by simp, e8.seq hp, fun b H9 nb e9 hb => ?_⟩
    walk_at "go"
    refine hR b _ _ hb fun H10 g10 => ?_
    have nDb : D ≠ b := ne_of_none hD8 nb
    have hD10 := g10.keep D _ nDb (e9 _ _ hD8)
    refine ⟨_, hD10, ?_, ?_, ?_⟩
    · rw [List.length_map, List.length_replicate]; exact small1000 (by omega)
    · intro p' o h'
      have n1 : p' ≠ D := ne_of_none h' hD
      have h8 := e8 _ _ h'
      have n2 : p' ≠ b := ne_of_none h8 nb
      rw [upd_ne n1]
      exact g10.keep _ _ n2 (e9 _ _ h8)
    · rw [upd_same, List.replicate_succ', List.map_append]; rfl
  · rintro H8 ⟨e8, hD8⟩
    walk_at "go"
    refine go_all (SqL.of hD8) ?_
    rw [show (List.replicate n.toNat true).all id = true by simp]
    exact k H8
end
end SL

set_option Elab.async false
set_option linter.all false
set_option maxRecDepth 100000
set_option maxHeartbeats 4000000
namespace SL
open PySem L2 PySem.Spec PyProof.Rows

/-! ### law k06 -/
def lpiece (n : Int) (z : Str) : Str := if z = Str.ofString "" then Str.ofString (toString (ab n)) else ptxt n z
def sp__law_piece (K : PySem.W.Frag) (a : Cl) : Sp := fun vs H Q _ => ∃ n z, vs = [.int n, .str z] ∧ Bd 1900 n ∧ z.length ≤ 10 ∧ Q (.str (lpiece n z)) H
def sp__law_written (K : PySem.W.Frag) (a : Cl) : Sp := fun vs H Q _ => ∃ c tp ts, vs = [.int c, .ref tp] ∧ TermsAt K H tp ts ∧ WF ts ∧ Sm c ts ∧ ∀ H', L2.Same H H' → Q (.str (formText c ts)) H'
def sp__law_right (K : PySem.W.Frag) (a : Cl) : Sp := fun vs H Q _ => ∃ b, vs = [.ref b] ∧ BagAt H b ∧ ∀ H', Grow b H H' → Q (.bl true) H'
def sp_law (K : PySem.W.Frag) (a : Cl) : Sp := fun vs H Q _ => ∃ (p : Addr) (ns : List Int), vs = [.ref p] ∧ SqL K H p (ns.map V.int) ∧ ns.length ≤ 63 ∧ ∀ H', Q (.bl true) H'
abbrev nm__law_piece : List Str := ["_law_size_here", "_law_called"]
def rd__law_piece (K : PySem.W.Frag) (a : Cl) (E : XK) : TS := (tSeq (tIfS (tTest (tOp rEq (tVar 1) (tC (.str "")))) (tRet (tCB rStrI (tCons (tCB rAbs (tCons (tVar 0) tNil)) tNil))) tNext)
  (tRet (tIf (tTest (tOp rEq (tCB rAbs (tCons (tVar 0) tNil)) (tC (.int 1)))) (tVar 1) (tOp rAddS (tOp rAddS (tCB rStrI (tCons (tCB rAbs (tCons (tVar 0) tNil)) tNil)) (tC (.str " "))) (tVar 1)))))
abbrev nm__law_written : List Str := ["_law_first", "_law_pairs", "_law_some", "_law_called", "_law_size_here", "_law_line"]
def rd__law_written (K : PySem.W.Frag) (a : Cl) (E : XK) : TS := (tSeq (tAsg (tIf (tOr (tTest (tOp rNe (tVar 0) (tC (.int 0)))) (tTest (tOp (rEqD K) (tVar 1) (tTup tNil)))) (tLst (tCons (tTup (tCons (tVar 0) (tCons (tC (.str "")) tNil))) tNil)) (tLst tNil)) (gName 2))
  (tSeq (tAsg (tOp rCat (tVar 2) (tLc (iTup K (tVar 1)) (gTup K 2 (gCons (gName 3) (gCons (gName 4) gNil))) tYes (tTup (tCons (tVar 4) (tCons (tVar 3) tNil))) [3, 4])) (gName 2))
  (tSeq (tAsg (tOp rAddS (tIf (tTest (tOp (rI0 fun i j => .bl (decide (i < j))) (tOp (rIxT K) (tOp (rIxL K) (tVar 2) (tC (.int 0))) (tC (.int 0))) (tC (.int 0)))) (tC (.str "-")) (tC (.str ""))) (tCall (sp__law_piece K a) [] E (tCons (tOp (rIxT K) (tOp (rIxL K) (tVar 2) (tC (.int 0))) (tC (.int 0))) (tCons (tOp (rIxT K) (tOp (rIxL K) (tVar 2) (tC (.int 0))) (tC (.int 1))) tNil)))) (gName 5))
  (tSeq (tFor (iList K (tSl (rSlL K) (tVar 2) (tPart (tC (.int 1))) tNoPart)) (gTup K 2 (gCons (gName 4) (gCons (gName 3) gNil))) (tAsg (tOp rAddS (tOp rAddS (tVar 5) (tIf (tTest (tOp (rI0 fun i j => .bl (decide (i < j))) (tVar 4) (tC (.int 0)))) (tC (.str " - ")) (tC (.str " + ")))) (tCall (sp__law_piece K a) [] E (tCons (tVar 4) (tCons (tVar 3) tNil)))) (gName 5)))
  (tRet (tVar 5))))))
abbrev nm__law_right : List Str := ["_law_bag_here", "_law_turn", "_law_first", "_law_pairs", "_law_each", "_law_mine", "_law_line"]
def rd__law_right (K : PySem.W.Frag) (a : Cl) (E : XK) : TS := (tSeq (tFor (iRng1 (tCons (tC (.int 8)) tNil)) (gName 1) (tSeq (tAsg (tCall (sp__law_one K a) [] E (tCons (tVar 0) (tCons (tLst (tCons (tC (.int 0)) (tCons (tC (.int 0)) (tCons (tC (.int 1)) (tCons (tOp (rI0 fun i j => .int (i - j)) (tC (.int 0)) (tC (.int 1))) (tCons (tC (.int 40)) (tCons (tOp (rI0 fun i j => .int (i - j)) (tC (.int 0)) (tCall (sp__law_draw K a) [] E (tCons (tVar 0) (tCons (tOp (rI CPow fun i j => .int (i ^ j.toNat)) (tC (.int 10)) (tC (.int 12))) tNil)))) tNil))))))) tNil))) (gName 2))
  (tSeq (tAsg (tLst tNil) (gName 3))
  (tSeq (tFor (iStr (tC (.str "abkyz"))) (gName 4) (tIfS (tTest (tOp rEq (tCall (sp__law_draw K a) [] E (tCons (tVar 0) (tCons (tC (.int 2)) tNil))) (tC (.int 0)))) (tDrop (tBM K "list" rAppend (tVar 3) (tCons (tTup (tCons (tVar 4) (tCons (tCall (sp__law_one K a) [] E (tCons (tVar 0) (tCons (tLst (tCons (tC (.int 1)) (tCons (tOp (rI0 fun i j => .int (i - j)) (tC (.int 0)) (tC (.int 1))) (tCons (tC (.int 2)) (tCons (tOp (rI0 fun i j => .int (i - j)) (tC (.int 0)) (tC (.int 12))) (tCons (tOp (rI0 fun i j => .int (i + j)) (tC (.int 1)) (tCall (sp__law_draw K a) [] E (tCons (tVar 0) (tCons (tOp (rI CPow fun i j => .int (i ^ j.toNat)) (tC (.int 10)) (tC (.int 12))) tNil)))) tNil)))))) tNil))) tNil))) tNil))) tNext))
  (tSeq (tPar 5 6 (tCons (tMake a.C_Form (sp_Form___init__ K a) [] E (tCons (tVar 2) (tCons (tCB (rTupOf K) (tCons (tVar 3) tNil)) tNil))) (tCons (tCall (sp__law_written K a) [] E (tCons (tVar 2) (tCons (tCB (rTupOf K) (tCons (tVar 3) tNil)) tNil))) tNil)))
  (tIfS (tOr (tTest (tOp (rNeD K) (tLst (tCons (tCB (rStrOwn a.C_Form (sp_Form___str__ K a) E) (tCons (tVar 5) tNil)) (tCons (tCB (rStrOwn a.C_Form (sp_Form___str__ K a) E) (tCons (tVar 5) tNil)) tNil))) (tLst (tCons (tVar 6) (tCons (tVar 6) tNil))))) (tTest (tOp rNe (tCB (rStrOwn a.C_Form (sp_Form___str__ K a) E) (tCons (tUn (rOwnU a.C_Form (sp_Form___neg__ K a) E) (tUn (rOwnU a.C_Form (sp_Form___neg__ K a) E) (tVar 5))) tNil)) (tVar 6)))) (tRet (tC (.bl false))) tNext))))))
  (tRet (tC (.bl true))))
abbrev nm_law : List Str := ["_law_cells", "_law_some", "_law_each", "_law_k"]
def rd_law (K : PySem.W.Frag) (a : Cl) (E : XK) : TS := (tSeq (tAsg (tLst (tCons (tMake a.C_Form (sp_Form___init__ K a) [.int 0, .ref a.emp] E tNil) (tCons (tMake a.C_Form (sp_Form___init__ K a) [] E (tCons (tC (.int 20)) (tCons (tTup (tCons (tTup (tCons (tC (.str "a")) (tCons (tOp (rI0 fun i j => .int (i - j)) (tC (.int 0)) (tC (.int 1))) tNil))) tNil)) tNil))) (tCons (tMake a.C_Form (sp_Form___init__ K a) [] E (tCons (tC (.int 0)) (tCons (tTup (tCons (tTup (tCons (tC (.str "a")) (tCons (tOp (rI0 fun i j => .int (i - j)) (tC (.int 0)) (tC (.int 1))) tNil))) (tCons (tTup (tCons (tC (.str "b")) (tCons (tC (.int 2)) tNil))) tNil))) tNil))) (tCons (tMake a.C_Form (sp_Form___init__ K a) [] E (tCons (tOp (rI0 fun i j => .int (i - j)) (tC (.int 0)) (tC (.int 3))) (tCons (tTup (tCons (tTup (tCons (tC (.str "c")) (tCons (tOp (rI0 fun i j => .int (i - j)) (tC (.int 0)) (tC (.int 4))) tNil))) tNil)) tNil))) (tCons (tMake a.C_Form (sp_Form___init__ K a) [.ref a.emp] E (tCons (tC (.int 1)) tNil)) tNil)))))) (gName 1))
  (tSeq (tIfS (tTest (tOp (rNeD K) (tLc (iList K (tVar 1)) (gName 2) tYes (tCB (rStrOwn a.C_Form (sp_Form___str__ K a) E0) (tCons (tVar 2) tNil)) [2]) (tLst (tCons (tC (.str "0")) (tCons (tC (.str "20 - a")) (tCons (tC (.str "-a + 2 b")) (tCons (tC (.str "-3 - 4 c")) (tCons (tC (.str "1")) tNil)))))))) (tRet (tC (.bl false))) tNext)
  (tRet (tCB (rAll K) (tCons (tLc (iRng1 (tCons (tCB rMax2 (tCons (tC (.int 2)) (tCons (tCB rMin2 (tCons (tCB (rLen K) (tCons (tVar 0) tNil)) (tCons (tC (.int 6)) tNil))) tNil))) tNil)) (gName 3) tYes (tCall (sp__law_right K a) [] E0 (tCons (tCall (sp__law_bag K a) [] E0 (tCons (tVar 0) (tCons (tVar 3) tNil))) tNil)) [3]) tNil)))))
local macro_rules | `(tactic| walk_at "up") => `(tactic| first | assumption | exact upd_same | (apply SL.RatAt.up; assumption; walk_at "up") | (apply SL.Same.at; assumption; walk_at "up"))
local macro_rules | `(tactic| walk_at "s0") => `(tactic| first
  | with_reducible refine SL.go_var (by with_unfolding_all rfl) ?_
  | with_reducible refine SL.go_seq ?_
  | with_reducible refine SL.go_next ?_
  | with_reducible refine SL.go_asg ?_
  | with_reducible refine SL.go_gname ?_
  | with_reducible refine SL.go_ret ?_
  | with_reducible refine SL.go_drop ?_
  | with_reducible refine SL.go_ifs ?_
  | with_reducible refine SL.go_c ?_
  | with_reducible refine SL.go_op ?_
  | with_reducible refine SL.go_un ?_
  | with_reducible refine SL.go_I0 ?_
  | with_reducible refine SL.go_U ?_
  | with_reducible refine SL.go_test ?_
  | with_reducible refine SL.go_tb ?_
  | with_reducible refine SL.go_bl ?_
  | with_reducible refine SL.go_eqI ?_
  | with_reducible refine SL.go_neI ?_
  | with_reducible refine SL.go_eqB ?_
  | with_reducible refine SL.go_neB ?_
  | with_reducible refine SL.go_eqS ?_
  | with_reducible refine SL.go_neS ?_
  | with_reducible refine SL.go_and ?_
  | with_reducible refine SL.go_or ?_
  | with_reducible refine SL.go_not ?_
  | with_reducible refine SL.go_andV ?_
  | with_reducible refine SL.go_orV ?_
  | with_reducible refine SL.go_notV ?_
  | with_reducible refine SL.go_if ?_
  | with_reducible refine SL.go_T ?_
  | with_reducible refine SL.go_F ?_
  | with_reducible refine SL.go_nT ?_
  | with_reducible refine SL.go_nF ?_
  | with_reducible refine SL.go_nil ?_
  | with_reducible refine SL.go_cons ?_
  | with_reducible refine SL.go_call ?_
  | with_reducible refine SL.go_cb ?_
  | with_reducible refine SL.go_par ?_
  | with_reducible refine SL.go_pair ?_
  | with_reducible refine SL.go_tup ?_
  | with_reducible refine SL.go_lst ?_
  | with_reducible refine SL.go_fldC ?_
  | with_reducible refine SL.go_sfld ?_
  | with_reducible refine SL.go_sub ?_
  | with_reducible refine SL.go_sl ?_
  | with_reducible refine SL.go_noPart ?_
  | with_reducible refine SL.go_part ?_
  | with_reducible refine SL.go_partE ?_
  | with_reducible refine SL.go_abs ?_
  | with_reducible refine SL.go_max2 ?_
  | with_reducible refine SL.go_min2 ?_
  | with_reducible refine SL.go_int ?_
  | with_reducible refine SL.go_intB ?_
  | with_reducible refine SL.go_bm ?_
  | with_reducible refine SL.go_meth ?_
  | with_reducible refine SL.go_methN ?_
  | with_reducible refine SL.go_make ?_
  | with_reducible refine SL.go_makeK ?_
  | with_reducible refine SL.go_for ?_
  | with_reducible refine SL.go_iList ?_
  | with_reducible refine SL.go_iTup ?_
  | with_reducible refine SL.go_iRng1 ?_
  | with_reducible refine SL.go_iRng2 ?_
  | with_reducible refine SL.go_lc ?_
  | with_reducible refine SL.go_yes ?_
  | with_reducible refine SL.go_chain ?_
  | with_reducible refine SL.go_j ?_
  | with_reducible refine SL.go_js0 ?_
  | with_reducible refine SL.go_js ?_
  | with_reducible refine SL.go_fmt ?_
  | with_reducible refine SL.go_m1 ?_
  | with_reducible refine SL.go_ltS ?_
  | with_reducible refine SL.go_leS ?_
  | with_reducible refine SL.go_strS ?_
  | with_reducible refine SL.go_iStr ?_
  | with_reducible refine SL.go_iZip ?_
  | with_reducible refine SL.go_iKeys ?_
  | with_reducible refine SL.go_dget ?_
  | with_reducible refine SL.go_dc ?_)
local macro_rules | `(tactic| walk_at "go") => `(tactic| repeat walk_at "s0")
local macro_rules | `(tactic| walk_at "nw") => `(tactic| (refine ⟨SL.szL (by simp), fun p n => ?_⟩; generalize q : upd _ p _ = H'; have e := SL.Same.new' n q; have h := SL.at_new q; clear q))
local macro_rules | `(tactic| walk_at "nw0") => `(tactic| (intro p n; generalize q : upd _ p _ = H'; have e := SL.Same.new' n q; have h := SL.at_new q; clear q))
section
variable {K : PySem.W.Frag} {a : Cl} {vs : List V} {H : Hp} {Q : VK} {E : XK}
theorem read__law_piece (h : sp__law_piece K a vs H Q E) : rd__law_piece K a E (ends Q) (start nm__law_piece vs) H := by
  obtain ⟨n, z, rfl, hb, hz, k⟩ := h
  have lt := txt_len hb
  have e1 : (Str.ofString " ").length = 1 := by decide +kernel
  unfold lpiece at k
  unfold rd__law_piece
  walk_at "go"
  refine go_d (fun e => ?_) (fun e => ?_)
  · rw [if_pos e] at k
    walk_at "go"
    refine go_strI (ab_log hb) ?_
    exact k
  · rw [if_neg e] at k
    unfold ptxt at k
    walk_at "go"
    show if decide (ab n = 1) = true then _ else _
    refine go_d (fun e => ?_) (fun e => ?_)
    · rw [if_pos e] at k
      walk_at "go"
      exact k
    · rw [if_neg e] at k
      walk_at "go"
      refine go_strI (ab_log hb) ?_
      walk_at "go"
      refine go_addS (z := Str.ofString (toString (ab n))) (sz (by omega)) ?_
      walk_at "go"
      refine go_addS (sz (by rw [len_app]; omega)) ?_
      exact k
/-! the law's own list of items -/
def its2 (c : Int) (ts : List Tm) : List (Int × Str) := (if c ≠ 0 ∨ ts = [] then [(c, Str.ofString "")] else []) ++ ts.map fun t => (t.2, nmS t.1)
theorem its2_items (c : Int) (ts : List Tm) : (its2 c ts).map (fun u => (decide (u.1 < 0), lpiece u.1 u.2)) = items c ts := by
  unfold its2 items
  rw [List.map_append, List.map_map]
  refine congr (congrArg _ ?_) ?_
  · split
    · show [(decide (c < 0), lpiece c (Str.ofString ""))] = _
      unfold lpiece
      rw [if_pos rfl]
    · rfl
  · refine List.map_congr_left fun t _ => ?_
    show (decide (t.2 < 0), lpiece t.2 (nmS t.1)) = _
    unfold lpiece
    rw [if_neg (by
      intro e
      have := congrArg Str.length e
      exact absurd this (by show ¬ (1 = (Str.ofString "").length); rw [show (Str.ofString "").length = 0 by decide +kernel]; decide))]
theorem its2_sm {c : Int} {ts : List Tm} (sm : Sm c ts) : ∀ u ∈ its2 c ts, Bd 1900 u.1 ∧ u.2.length ≤ 10 := by
  intro u hu
  unfold its2 at hu
  rcases List.mem_append.mp hu with hu | hu
  · split at hu
    · cases List.mem_singleton.mp hu
      exact ⟨sm.c, by show (Str.ofString "").length ≤ 10; rw [show (Str.ofString "").length = 0 by decide +kernel]; decide⟩
    · cases hu
  · obtain ⟨t, ht, rfl⟩ := List.mem_map.mp hu
    exact ⟨sm.ts t ht, (by decide : 1 ≤ 10)⟩
inductive Prs2 (H : Hp) : List Addr → List (Int × Str) → Prop where
  | nil : Prs2 H [] []
  | cons {q : Addr} {n : Int} {z : Str} {qs : List Addr} {ts : List (Int × Str)} (h : H q = some (.tup [.int n, .str z])) (r : Prs2 H qs ts) : Prs2 H (q :: qs) ((n, z) :: ts)
theorem Prs2.imm {H H' : Hp} {qs : List Addr} {ts : List (Int × Str)} (e : Imm H H') (h : Prs2 H qs ts) : Prs2 H' qs ts := by
  induction h with
  | nil => exact .nil
  | cons h r ih => exact .cons (e.tup h) ih
theorem Prs2.len {H : Hp} {qs : List Addr} {ts : List (Int × Str)} (h : Prs2 H qs ts) : qs.length = ts.length := by
  induction h with
  | nil => rfl
  | cons h r ih => rw [List.length_cons, List.length_cons, ih]
theorem Prs2.get {H : Hp} {qs : List Addr} {ts : List (Int × Str)} (h : Prs2 H qs ts) : ∀ {i : Nat} {x : V}, (qs.map V.ref)[i]? = some x → ∃ q n z, x = .ref q ∧ ts[i]? = some (n, z) ∧ H q = some (.tup [.int n, .str z]) := by
  induction h with
  | nil => intro i x e; simp at e
  | @cons q n z qs ts h r ih =>
    intro i x e
    cases i with
    | zero => simp at e; exact ⟨q, n, z, e.symm, rfl, h⟩
    | succ i => simp only [List.map_cons, List.getElem?_cons_succ] at e; exact ih e
theorem Prs2.snoc {H : Hp} {qs : List Addr} {ts : List (Int × Str)} {q : Addr} {n : Int} {z : Str} (h : Prs2 H qs ts) (hq : H q = some (.tup [.int n, .str z])) : Prs2 H (qs ++ [q]) (ts ++ [(n, z)]) := by
  induction h with
  | nil => exact .cons hq .nil
  | cons h r ih => exact .cons h ih
theorem Prs2.app {H : Hp} {qs qs' : List Addr} {ts ts' : List (Int × Str)} (h : Prs2 H qs ts) (h' : Prs2 H qs' ts') : Prs2 H (qs ++ qs') (ts ++ ts') := by
  induction h with
  | nil => exact h'
  | cons h r ih => exact .cons h ih
theorem dp_terms {tp : Addr} {ts : List Tm} (h : TermsAt K H tp ts) : Dp K H (.ref tp) (.tuple (ts.map fun t => .tuple [.str (nmS t.1), .int t.2])) := by
  obtain ⟨qs, hq, hr⟩ := h
  refine .tup hq ?_
  clear hq
  induction hr with
  | nil => exact .nil
  | cons h r ih => exact .cons (.tup (SqT.of h) (.cons (.str _) (.cons (.int _) .nil))) ih
theorem sh_terms {ts : List Tm} (wf : WF ts) : SeqAt.shaped (.tuple (ts.map fun t => .tuple [.str (nmS t.1), .int t.2])) = true := by
  unfold SeqAt.shaped
  have h1 : PyData.canLayAll0 (ts.map fun t => .tuple [.str (nmS t.1), .int t.2]) = true := by
    have hr := wf.rng
    clear wf
    induction ts with
    | nil => rfl
    | cons t r ih =>
      rw [List.map_cons]
      unfold PyData.canLayAll0
      rw [ih (fun u hu => hr u (List.mem_cons_of_mem _ hu))]
      have : PyData.strOk (nmS t.1) = true := ok_nmS (hr t (List.mem_cons_self ..)).2.1
      simp [PyData.canLay0, PyData.canLayAll0, this]
  have h2 : PyData.depthAll (ts.map fun t => .tuple [.str (nmS t.1), .int t.2]) ≤ 1 := by
    clear h1 wf
    induction ts with
    | nil => exact Nat.zero_le _
    | cons t r ih =>
      rw [List.map_cons]
      unfold PyData.depthAll
      refine Nat.max_le.mpr ⟨?_, ih⟩
      simp [PyData.depth, PyData.depthAll]
  have h3 : (PyData.tuple (ts.map fun t => .tuple [.str (nmS t.1), .int t.2])).depth ≤ 64 := by
    unfold PyData.depth
    omega
  have h4 : (PyData.tuple (ts.map fun t => .tuple [.str (nmS t.1), .int t.2])).canLay0 = true := by
    unfold PyData.canLay0
    exact h1
  rw [h4, decide_eq_true h3]; rfl
theorem eqv_nilT (xs : List PyData) : PyData.eqv (.tuple xs) (.tuple []) = xs.isEmpty := by
  cases xs <;> simp [PyData.eqv, PyData.eqvAll]
theorem read__law_written (h : sp__law_written K a vs H Q E) : rd__law_written K a E (ends Q) (start nm__law_written vs) H := by
  obtain ⟨c, tp, ts, rfl, hT, wf, sm, k⟩ := h
  have wl := wf.len
  unfold rd__law_written
  with_reducible refine go_seq ?_
  with_reducible refine go_asg ?_
  refine go_viaE (fun v H3 => ∃ s1 qs, v = .ref s1 ∧ L2.Same H H3 ∧ H3 s1 = some (.lst (qs.map V.ref)) ∧ Prs2 H3 qs (if c ≠ 0 ∨ ts = [] then [(c, Str.ofString "")] else [])) ?_ (fun fin0 => ?_)
  rotate_left
  · have fin := fun s1 qs H3 e1 e2 e3 => fin0 (.ref s1) H3 ⟨s1, qs, rfl, e1, e2, e3⟩
    clear fin0
    walk_at "go"
    refine go_dn (fun h0 => ?_) (fun h0 => ?_)
    · walk_at "go"
      walk_at "nw"
      rename_i q nq H1 e1 hq
      walk_at "go"
      walk_at "nw"
      rename_i l nl H2 e2 hl
      exact fin l [q] H2 (e1.trans e2) hl (by rw [if_pos (.inl h0)]; exact .cons (e2 _ _ hq) .nil)
    · walk_at "go"
      walk_at "nw"
      rename_i u nu H1 e1 hu
      refine ⟨_, _, dp_terms (hT.up e1), .tup (SqT.of hu) .nil, sh_terms wf, by rfl, ?_⟩
      rw [eqv_nilT]
      cases ts with
      | nil =>
        refine go_bl ?_
        refine go_T ?_
        walk_at "go"
        walk_at "nw"
        rename_i q nq H2 e2 hq
        walk_at "go"
        walk_at "nw"
        rename_i l nl H3 e3 hl
        exact fin l [q] H3 ((e1.trans e2).trans e3) hl (by rw [if_pos (.inr rfl)]; exact .cons (e3 _ _ hq) .nil)
      | cons t r =>
        refine go_bl ?_
        refine go_F ?_
        walk_at "go"
        walk_at "nw"
        rename_i l nl H2 e2 hl
        exact fin l [] H2 (e1.trans e2) hl (by rw [if_neg (by rw [h0]; simp)]; exact .nil)
  · rintro _ H3 ⟨s1, qs, rfl, e3, hs1, hr⟩
    walk_at "go"
    obtain ⟨qt, hqt, hrt⟩ := hT.up e3
    refine ⟨tp, rfl, ⟨_, hqt⟩, lc_ext (walk_tup (K := K) (a := tp) (xs := qt.map V.ref)) (fun i ys H' => ∃ qs : List Addr, ys = qs.map V.ref ∧ Prs2 H' qs ((ts.take i).map fun t : Tm => (t.2, nmS t.1))) (fun i ys _ _ m ⟨qs, e, r⟩ => ⟨qs, e, r.imm m⟩) ⟨[], rfl, .nil⟩ (fun H' e => hqt.imm (.of e)) (by rw [List.length_map, hrt.len]; omega) (fun i H x H' y => y.1 ▸ L2.Same.refl _) ?_ ?_⟩
    · rintro i ys x H4 H5 P N hi e4 ⟨qs, rfl, hr⟩ ⟨rfl, hx⟩ yes no
      obtain ⟨q, c', n, rfl, ht, hq0⟩ := hrt.get hx
      refine g_pair (SqT.of (e4 _ _ hq0)) ⟨rfl, ?_⟩
      walk_at "go"
      walk_at "nw"
      rename_i u nu H6 e6 hu
      refine yes _ _ e6 ⟨qs ++ [u], by rw [List.map_append]; rfl, ?_⟩
      rw [take_more ht, List.map_append]
      exact (hr.imm (.of e6)).snoc hu
    · rintro D ys H4 nD e4 hD _ ⟨qd, rfl, hrd⟩
      rw [List.length_map, hrt.len, List.take_length] at hrd
      have lq : qs.length ≤ 1 := by rw [hr.len]; split <;> simp
      have lqd : qd.length = ts.length := by rw [hrd.len, List.length_map]
      refine go_cat (e4 _ _ hs1) hD (by rw [List.length_map, List.length_map]; omega) fun s2 H5 ns2 e5 hs2 => ?_
      rw [← List.map_append] at hs2
      have hr5 : Prs2 H5 (qs ++ qd) (its2 c ts) := ((hr.imm (.of (e4.trans e5))).app (hrd.imm (.of e5)))
      have ism := its2_sm sm
      have ie := its2_items c ts
      have il := items_len wf c
      have it := items_txt sm.c sm.ts
      unfold formText at k
      rw [← ie] at k il it
      generalize qs ++ qd = qq at hs2 hr5
      generalize its2 c ts = us at hr5 ism ie k il it
      cases hr5 with
      | nil => exact absurd ie.symm (by obtain ⟨p, r, e⟩ := items_ne c ts; rw [e]; simp)
      | @cons q0 n0 z0 qs1 r1 hq0 hr1 =>
        rw [List.map_cons] at k il it hs2
        have b0 := ism _ (List.mem_cons_self ..)
        have hp0 : (lpiece n0 z0).length ≤ 620 := it _ (List.mem_cons_self ..)
        have hm : (Str.ofString "-").length = 1 := by decide +kernel
        have hn : (Str.ofString "").length = 0 := by decide +kernel
        walk_at "go"
        refine go_ixL (SqL.of hs2) (v := .ref q0) (at0 _ _) ?_
        walk_at "go"
        refine go_ixT (SqT.of hq0) (v := .int n0) rfl ?_
        walk_at "go"
        refine go_join (P := fun v => v = .str (if n0 < 0 then Str.ofString "-" else Str.ofString "")) (fun e R q => ?_) (fun e R q => ?_) ?_
        · exact q _ (by rw [if_pos (of_decide_eq_true e)])
        · exact q _ (by rw [if_neg (of_decide_eq_false e)])
        rintro _ rfl
        walk_at "go"
        refine go_ixL (SqL.of hs2) (v := .ref q0) (at0 _ _) ?_
        walk_at "go"
        refine go_ixT (SqT.of hq0) (v := .int n0) rfl ?_
        walk_at "go"
        refine go_ixL (SqL.of hs2) (v := .ref q0) (at0 _ _) ?_
        walk_at "go"
        refine go_ixT (SqT.of hq0) (v := .str z0) rfl ?_
        walk_at "go"
        refine ⟨n0, z0, rfl, b0.1, b0.2, ?_⟩
        have l0 : (if n0 < 0 then Str.ofString "-" else Str.ofString "").length ≤ 1 := by split <;> omega
        refine go_addS (sz (by omega)) ?_
        have e0 : (if n0 < 0 then Str.ofString "-" else Str.ofString "") ++ lpiece n0 z0 = (if decide (n0 < 0) = true then Str.ofString "-" ++ lpiece n0 z0 else lpiece n0 z0) := by
          by_cases q : n0 < 0
          · rw [if_pos q, if_pos (decide_eq_true q)]
          · rw [if_neg q, if_neg (by simp [q]), str_nil_app']
        rw [e0]
        have f0 : (if decide (n0 < 0) = true then Str.ofString "-" ++ lpiece n0 z0 else lpiece n0 z0).length ≤ 621 := by rw [← e0, len_app]; omega
        walk_at "go"
        refine go_slL (SqL.of hs2) fun l1 H6 nl1 e6 hl1 => ?_
        rw [cutV_one] at hl1
        have hl1' : H6 l1 = some (.lst (qs1.map V.ref)) := hl1
        refine ⟨l1, rfl, ⟨_, SqL.of hl1'⟩, for_it (walk_list (K := K) (a := l1) (xs := qs1.map V.ref)) (fun i σ H' => ∃ t3 t4 : Option V, σ = [some (.int c), some (.ref tp), some (.ref s2), t3, t4, some (.str (((r1.map fun u => (decide (u.1 < 0), lpiece u.1 u.2)).take i).foldl glue1 (if decide (n0 < 0) = true then Str.ofString "-" ++ lpiece n0 z0 else lpiece n0 z0)))] ∧ L2.Same H6 H') ⟨none, none, rfl, L2.Same.refl _⟩ ?_ ?_ ?_⟩
        · rintro i σ H' _ ⟨t6, t7, rfl, e⟩
          exact SqL.of (e _ _ hl1')
        · rintro i x σ H7 H8 hi ⟨t3, t4, rfl, e7⟩ ⟨rfl, hx⟩
          obtain ⟨q, n, z, rfl, ht, hq⟩ := hr1.get hx
          have hb : (r1.map fun u => (decide (u.1 < 0), lpiece u.1 u.2))[i]? = some (decide (n < 0), lpiece n z) := by rw [List.getElem?_map, ht]; rfl
          have bn := ism _ (List.mem_cons_of_mem _ (List.mem_of_getElem? ht))
          have lz : (lpiece n z).length ≤ 620 := it _ (List.mem_cons_of_mem _ (List.mem_of_getElem? hb))
          have ll := fold_len ((r1.map fun u => (decide (u.1 < 0), lpiece u.1 u.2)).take i) (if decide (n0 < 0) = true then Str.ofString "-" ++ lpiece n0 z0 else lpiece n0 z0) fun q hq => it _ (List.mem_cons_of_mem _ (List.mem_of_mem_take hq))
          have l2 : ((r1.map fun u => (decide (u.1 < 0), lpiece u.1 u.2)).take i).length ≤ 27 := by rw [List.length_take]; rw [List.length_cons] at il; omega
          have e1' : (Str.ofString " - ").length = 3 := by decide +kernel
          have e2' : (Str.ofString " + ").length = 3 := by decide +kernel
          refine g_pair (SqT.of (e7 _ _ (e6 _ _ hq))) ?_
          walk_at "go"
          refine go_join (P := fun v => v = .str (if decide (n < 0) = true then Str.ofString " - " else Str.ofString " + ")) (fun e R q => ?_) (fun e R q => ?_) ?_
          · exact q _ (by rw [if_pos e])
          · exact q _ (by rw [if_neg (by rw [e]; simp)])
          rintro _ rfl
          have l3 : (if decide (n < 0) = true then Str.ofString " - " else Str.ofString " + ").length = 3 := by split <;> assumption
          refine go_addS (sz (by rw [l3]; omega)) ?_
          walk_at "go"
          refine ⟨n, z, rfl, bn.1, bn.2, ?_⟩
          refine go_addS (sz (by rw [len_app, l3]; omega)) ?_
          walk_at "go"
          exact ⟨_, _, by rw [foldl_take hb]; rfl, e7⟩
        · rintro σ H7 ⟨t3, t4, rfl, e7⟩
          rw [show (qs1.map V.ref).length = (r1.map fun u => (decide (u.1 < 0), lpiece u.1 u.2)).length by rw [List.length_map, List.length_map, hr1.len], List.take_length]
          walk_at "go"
          exact k H7 ((((e3.trans e4).trans e5).trans e6).trans e7)
theorem WF.snoc {ts : List Tm} {c : Nat} {n : Int} (wf : WF ts) (h : ∀ t ∈ ts, t.1 < c) (hc : 97 ≤ c ∧ c ≤ 122) (hn : n ≠ 0) : WF (ts ++ [(c, n)]) := by
  refine ⟨List.pairwise_append.mpr ⟨wf.srt, List.pairwise_singleton .., fun x hx y hy => ?_⟩, fun t ht => ?_⟩
  · cases List.mem_singleton.mp hy
    exact h x hx
  · rcases List.mem_append.mp ht with ht | ht
    · exact wf.rng t ht
    · cases List.mem_singleton.mp ht
      exact ⟨hc.1, hc.2, hn⟩
theorem WF.nil : WF [] := ⟨.nil, fun t ht => by cases ht⟩
theorem bd64 {x : Int} (h0 : -1000000000000 ≤ x) (h1 : x ≤ 1000000000000) {k : Nat} (hk : 64 ≤ k := by decide) : Bd k x := Bd.small hk h0 h1
theorem mulT_neg2 (ts : List Tm) : mulT (-1) (mulT (-1) ts) = ts := by
  unfold mulT
  rw [List.map_map]
  conv => rhs; rw [← List.map_id ts]
  refine List.map_congr_left fun t _ => ?_
  show (t.1, t.2 * -1 * -1) = t
  rw [show t.2 * -1 * -1 = t.2 by omega]
def abk : List Nat := [97, 98, 107, 121, 122]
theorem abk_at : ∀ {i : Nat} {c : Nat}, (Str.ofString "abkyz").cps[i]? = some c → abk[i]? = some c ∧ (97 ≤ c ∧ c ≤ 122) ∧ ∀ d ∈ abk.take i, d < c := by
  intro i c h
  rw [show (Str.ofString "abkyz").cps = #[97, 98, 107, 121, 122] by decide +kernel] at h
  have hi : i < 5 := (Array.getElem?_eq_some_iff.mp h).1
  match i, hi with
  | 0, _ => cases h; exact ⟨rfl, by decide, by decide⟩
  | 1, _ => cases h; exact ⟨rfl, by decide, by decide⟩
  | 2, _ => cases h; exact ⟨rfl, by decide, by decide⟩
  | 3, _ => cases h; exact ⟨rfl, by decide, by decide⟩
  | 4, _ => cases h; exact ⟨rfl, by decide, by decide⟩
theorem str_form {p : Addr} {c : Int} {ts : List Tm} {R : VK} (hF : FormAt K a H p c ts) (sm : Sm c ts) (k : ∀ H', L2.Same H H' → R (.str (formText c ts)) H') : rStrOwn a.C_Form (sp_Form___str__ K a) E [.ref p] H R := by
  obtain ⟨⟨dx, tp, h1, _⟩, _⟩ := id hF
  exact go_strOwn h1 ⟨p, c, ts, rfl, hF, sm, fun H' e => ⟨_, rfl, k H' e⟩⟩
theorem neg_form {p : Addr} {c : Int} {ts : List Tm} {R : VK} (hF : FormAt K a H p c ts) (bc : Bd 8000 c) (bt : ∀ t ∈ ts, Bd 8000 t.2) (k : ∀ q H', L2.Same H H' → FormAt K a H' q (c * -1) (mulT (-1) ts) → R (.ref q) H') : rOwnU a.C_Form (sp_Form___neg__ K a) E (.ref p) H R := by
  obtain ⟨⟨dx, tp, h1, _⟩, _⟩ := id hF
  exact go_ownU h1 ⟨p, c, ts, rfl, hF, bc, bt, k⟩
theorem read__law_right (h : sp__law_right K a vs H Q E) : rd__law_right K a E (ends Q) (start nm__law_right vs) H := by
  obtain ⟨b, rfl, hb, k⟩ := h
  unfold rd__law_right
  walk_at "go"
  refine ⟨8, rfl, by decide, by decide, for_range (lo := 0) (n := 8) (fun i σ H' => ∃ t1 t2 t3 t4 t5 t6 : Option V, σ = [some (.ref b), t1, t2, t3, t4, t5, t6] ∧ Grow b H H') ⟨_, _, _, _, _, _, rfl, .refl hb⟩ ?_ ?_⟩
  · rintro i σ H1 hi ⟨t1, t2, t3, t4, t5, t6, rfl, g1⟩
    walk_at "go"
    refine go_I ⟨by decide, by decide, by decide⟩ ?_
    walk_at "go"
    refine draw_of g1.b1 (by decide) (by decide) fun r1 H2 r0 r1' g2 => ?_
    have r1'' : r1 < 1000000000000 := r1'
    walk_at "go"
    walk_at "nw"
    rename_i l1 nl1 H3 e3 hl1
    walk_at "go"
    refine one_ints (g2.b1.up e3) (BagAt.ne g2.b1 nl1) hl1 (by simp) (by show 6 ≤ 1000; decide) fun x H4 hx g4 => ?_
    obtain ⟨c, rfl, c0, c1⟩ : ∃ c : Int, x = .int c ∧ -1000000000000 ≤ c ∧ c ≤ 1000000000000 := by
      simp only [List.mem_cons, List.not_mem_nil, or_false] at hx
      rcases hx with rfl | rfl | rfl | rfl | rfl | rfl
      · exact ⟨0, rfl, by omega, by omega⟩
      · exact ⟨0, rfl, by omega, by omega⟩
      · exact ⟨1, rfl, by omega, by omega⟩
      · exact ⟨0 - 1, rfl, by omega, by omega⟩
      · exact ⟨40, rfl, by omega, by omega⟩
      · exact ⟨0 - r1, rfl, by omega, by omega⟩
    have G4 : Grow b H H4 := (g1.trans g2).trans ((Grow.same g2.b1 e3).trans g4)
    walk_at "go"
    walk_at "nw"
    rename_i L nL H5 e5 hL
    have nLb : L ≠ b := BagAt.ne g4.b1 nL
    walk_at "go"
    refine ⟨_, rfl, for_it (walk_str (z := Str.ofString "abkyz")) (fun j σ H' => ∃ (qs : List Addr) (ts : List Tm) (u4 : Option V), σ = [some (.ref b), some (.int (0 + (i : Int))), some (.int c), some (.ref L), u4, t5, t6] ∧ Grow b H4 H' ∧ H' L = some (.lst (qs.map V.ref)) ∧ Prs H' qs ts ∧ WF ts ∧ (∀ t ∈ ts, t.1 ∈ abk.take j ∧ Bd 64 t.2)) ⟨[], [], _, rfl, .same g4.b1 e5, hL, .nil, .nil, fun t ht => by cases ht⟩ (fun _ _ _ _ _ => trivial) ?_ ?_⟩
    · rintro j x σ H6 H7 hj ⟨qs, ts, u4, rfl, g6, hL6, hr6, wf6, rg6⟩ ⟨rfl, cc, hcc, rfl⟩
      obtain ⟨hat, hc, hlt⟩ := abk_at hcc
      have more : ∀ t ∈ ts, t.1 ∈ abk.take (j + 1) ∧ Bd 64 t.2 := fun t ht => ⟨by rw [take_more hat]; exact List.mem_append_left _ (rg6 t ht).1, (rg6 t ht).2⟩
      walk_at "go"
      refine draw_of g6.b1 (by decide) (by decide) fun r2 H8 r20 r21 g8 => ?_
      have hL8 := g8.lst nLb hL6
      have hr8 := hr6.imm g8.imm
      walk_at "go"
      refine go_d (fun e => ?_) (fun e => ?_)
      · walk_at "go"
        refine ⟨ty_list (SqL.of hL8), ?_⟩
        walk_at "go"
        refine go_I ⟨by decide, by decide, by decide⟩ ?_
        walk_at "go"
        refine draw_of g8.b1 (by decide) (by decide) fun r3 H9 r30 r31 g9 => ?_
        have r31' : r3 < 1000000000000 := r31
        walk_at "go"
        walk_at "nw"
        rename_i l2 nl2 H10 e10 hl2
        walk_at "go"
        refine one_ints (g9.b1.up e10) (BagAt.ne g9.b1 nl2) hl2 (by simp) (by show 5 ≤ 1000; decide) fun x H11 hx g11 => ?_
        obtain ⟨n, rfl, n0, n1, n2⟩ : ∃ n : Int, x = .int n ∧ -1000000000000 ≤ n ∧ n ≤ 1000000000000 ∧ n ≠ 0 := by
          simp only [List.mem_cons, List.not_mem_nil, or_false] at hx
          rcases hx with rfl | rfl | rfl | rfl | rfl
          · exact ⟨1, rfl, by omega, by omega, by omega⟩
          · exact ⟨0 - 1, rfl, by omega, by omega, by omega⟩
          · exact ⟨2, rfl, by omega, by omega, by omega⟩
          · exact ⟨0 - 12, rfl, by omega, by omega, by omega⟩
          · exact ⟨1 + r3, rfl, by omega, by omega, by omega⟩
        have G11 : Grow b H8 H11 := g9.trans ((Grow.same g9.b1 e10).trans g11)
        walk_at "go"
        walk_at "nw"
        rename_i q nq H12 e12 hq
        have hL12 := e12 _ _ (G11.lst nLb hL8)
        walk_at "go"
        refine go_app hL12 (by rw [List.length_map, hr6.len]; have := wf6.len; omega) ?_
        have im : Imm H12 (upd H12 L (.lst (qs.map V.ref ++ [V.ref q]))) := Imm.updL hL12
        have G12 : Grow b H4 H12 := ((g6.trans g8).trans G11).trans (.same G11.b1 e12)
        refine ⟨qs ++ [q], ts ++ [(cc, n)], _, rfl, ⟨G12.b0, ?_, fun p o np h => ?_⟩, by rw [upd_same, List.map_append]; rfl, ((hr8.imm (G11.imm.trans (.of e12))).imm im).snoc (im.tup hq), wf6.snoc (fun t ht => hlt _ (rg6 t ht).1) hc n2, fun t ht => ?_⟩
        · obtain ⟨f, s, c', q'⟩ := G12.b1
          exact ⟨f, s, c', by rw [upd_ne (Ne.symm nLb)]; exact q'⟩
        · have n1 : p ≠ L := ne_of_none h nL
          rw [upd_ne n1]
          exact G12.keep p o np h
        · rcases List.mem_append.mp ht with ht | ht
          · exact more t ht
          · cases List.mem_singleton.mp ht
            exact ⟨by rw [take_more hat]; exact List.mem_append_right _ (List.mem_singleton.mpr rfl), bd64 n0 n1⟩
      · walk_at "go"
        exact ⟨qs, ts, _, rfl, g6.trans g8, hL8, hr8, wf6, more⟩
    · rintro σ H6 ⟨qs, ts, u4, rfl, g6, hL6, hr6, wf6, rg6⟩
      have sm : Sm c ts := ⟨bd64 c0 c1, fun t ht => (rg6 t ht).2.mono (by decide)⟩
      walk_at "go"
      refine go_tupL (SqL.of hL6) fun tp H7 ntp e7 htp => ?_
      walk_at "go"
      refine mk_form ⟨qs, SqT.of htp, hr6.imm (.of e7)⟩ wf6 fun p H8 e8 hF => ?_
      walk_at "go"
      refine go_tupL (SqL.of ((e7.trans e8) _ _ hL6)) fun tp2 H9 ntp2 e9 htp2 => ?_
      walk_at "go"
      refine ⟨c, tp2, ts, rfl, ⟨qs, SqT.of htp2, hr6.imm (.of ((e7.trans e8).trans e9))⟩, wf6, sm, fun H10 e10 => ?_⟩
      have hF10 := hF.up (e9.trans e10)
      walk_at "go"
      refine str_form hF10 sm fun H11 e11 => ?_
      walk_at "go"
      refine str_form (hF10.up e11) sm fun H12 e12 => ?_
      walk_at "go"
      walk_at "nw"
      rename_i m1 nm1 H13 e13 hm1
      walk_at "go"
      walk_at "nw"
      rename_i m2 nm2 H14 e14 hm2
      refine ne_same (d := .list [.str (formText c ts), .str (formText c ts)]) (.lst (SqL.of (e14 _ _ hm1)) (.cons (.str _) (.cons (.str _) .nil))) (.lst (SqL.of hm2) (.cons (.str _) (.cons (.str _) .nil))) (sh_strs (xs := [formText c ts, formText c ts]) fun x hx => ?_) ?_
      · simp only [List.mem_cons, List.not_mem_nil, or_false, or_self] at hx
        subst hx
        exact ok_formText wf6
      have hF14 := hF10.up (((e11.trans e12).trans e13).trans e14)
      walk_at "go"
      refine neg_form hF14 (bd64 c0 c1) (fun t ht => (rg6 t ht).2.mono (by decide)) fun p1 H15 e15 hF15 => ?_
      refine neg_form hF15 (bd64 (by omega) (by omega)) (fun t ht => ?_) fun p2 H16 e16 hF16 => ?_
      · obtain ⟨t', h1, rfl⟩ := List.mem_map.mp ht
        exact (((rg6 t' h1).2.mul (bd64 (k := 64) (by decide) (by decide))).mono (by decide))
      rw [mulT_neg2, show c * -1 * -1 = c by omega] at hF16
      walk_at "go"
      refine str_form hF16 sm fun H17 e17 => ?_
      walk_at "go"
      refine go_dnT rfl ?_
      walk_at "go"
      refine ⟨_, _, _, _, _, _, rfl, (G4.trans g6).trans (.same g6.b1 ?_)⟩
      exact ((((((((((e7.trans e8).trans e9).trans e10).trans e11).trans e12).trans e13).trans e14).trans e15).trans e16).trans e17)
  · rintro σ H1 ⟨t1, t2, t3, t4, t5, t6, rfl, g1⟩
    walk_at "go"
    exact k H1 g1
theorem nmA : Str.ofString "a" = nmS 97 := by decide +kernel
theorem nmB : Str.ofString "b" = nmS 98 := by decide +kernel
theorem nmC : Str.ofString "c" = nmS 99 := by decide +kernel
theorem read_law (hE : EmpOk K a) (h : sp_law K a vs H Q E) : rd_law K a E (ends Q) (start nm_law vs) H := by
  obtain ⟨p, ns, rfl, hp, hlen, k⟩ := h
  have sb : ∀ {x : Int}, -1000000000000 ≤ x → x ≤ 1000000000000 → Bd 1900 x := fun h0 h1 => bd64 h0 h1
  unfold rd_law
  walk_at "go"
  refine mk_form0 (ts := []) ⟨[], hE _, .nil⟩ .nil fun p1 H1 e1 h1 => ?_
  walk_at "go"
  walk_at "nw"
  rename_i q2 nq2 H2 e2 hq2
  replace hq2 : H2 q2 = some (.tup [.str (nmS 97), .int (-1)]) := by rw [hq2, nmA]; rfl
  walk_at "go"
  walk_at "nw"
  rename_i t2 nt2 H3 e3 ht2
  walk_at "go"
  refine mk_form (ts := [(97, -1)]) ⟨[q2], SqT.of ht2, .cons (e3 _ _ hq2) .nil⟩ ⟨by simp, by simp⟩ fun p2 H4 e4 h2 => ?_
  walk_at "go"
  walk_at "nw"
  rename_i q3 nq3 H5 e5 hq3
  replace hq3 : H5 q3 = some (.tup [.str (nmS 97), .int (-1)]) := by rw [hq3, nmA]; rfl
  walk_at "go"
  walk_at "nw"
  rename_i q4 nq4 H6 e6 hq4
  replace hq4 : H6 q4 = some (.tup [.str (nmS 98), .int (2)]) := by rw [hq4, nmB]
  walk_at "go"
  walk_at "nw"
  rename_i t3 nt3 H7 e7 ht3
  walk_at "go"
  refine mk_form (ts := [(97, -1), (98, 2)]) ⟨[q3, q4], SqT.of ht3, .cons (e7 _ _ (e6 _ _ hq3)) (.cons (e7 _ _ hq4) .nil)⟩ ⟨by simp, by simp⟩ fun p3 H8 e8 h3 => ?_
  walk_at "go"
  walk_at "nw"
  rename_i q5 nq5 H9 e9 hq5
  replace hq5 : H9 q5 = some (.tup [.str (nmS 99), .int (-4)]) := by rw [hq5, nmC]; rfl
  walk_at "go"
  walk_at "nw"
  rename_i t4 nt4 H10 e10 ht4
  walk_at "go"
  refine mk_form (ts := [(99, -4)]) ⟨[q5], SqT.of ht4, .cons (e10 _ _ hq5) .nil⟩ ⟨by simp, by simp⟩ fun p4 H11 e11 h4 => ?_
  walk_at "go"
  refine mk_form1 (ts := []) ⟨[], hE _, .nil⟩ .nil fun p5 H12 e12 h5 => ?_
  walk_at "go"
  walk_at "nw"
  rename_i l nl H13 e13 hl
  have all : ∀ (i : Nat) (x : V), ([V.ref p1, V.ref p2, V.ref p3, V.ref p4, V.ref p5] : List V)[i]? = some x → ∃ (p : Addr) (c : Int) (ts : List Tm), x = V.ref p ∧ FormAt K a H13 p c ts ∧ Sm c ts ∧ ([Str.ofString "0", Str.ofString "20 - a", Str.ofString "-a + 2 b", Str.ofString "-3 - 4 c", Str.ofString "1"] : List Str)[i]? = some (formText c ts) := by
    intro i x hx
    have hi : i < 5 := (List.getElem?_eq_some_iff.mp hx).1
    have e5' := e12.trans e13
    have e4' := e11.trans e5'
    have a9 := e9.trans (e10.trans e4')
    have a5 := e5.trans (e6.trans (e7.trans (e8.trans a9)))
    have a2 := e2.trans (e3.trans (e4.trans a5))
    match i, hi with
    | 0, _ => cases hx; exact ⟨p1, _, _, rfl, h1.up a2, ⟨sb (by decide) (by decide), by simp⟩, by decide +kernel⟩
    | 1, _ => cases hx; exact ⟨p2, _, _, rfl, h2.up a5, ⟨sb (by decide) (by decide), by simp; exact sb (by decide) (by decide)⟩, by decide +kernel⟩
    | 2, _ => cases hx; exact ⟨p3, _, _, rfl, h3.up a9, ⟨sb (by decide) (by decide), by simp; exact ⟨sb (by decide) (by decide), sb (by decide) (by decide)⟩⟩, by decide +kernel⟩
    | 3, _ => cases hx; exact ⟨p4, _, _, rfl, h4.up e5', ⟨sb (by decide) (by decide), by simp; exact sb (by decide) (by decide)⟩, by decide +kernel⟩
    | 4, _ => cases hx; exact ⟨p5, _, _, rfl, h5.up e13, ⟨sb (by decide) (by decide), by simp⟩, by decide +kernel⟩
  have S13 : L2.Same H H13 := (((((((((((e1.trans e2).trans e3).trans e4).trans e5).trans e6).trans e7).trans e8).trans e9).trans e10).trans e11).trans e12).trans e13
  walk_at "go"
  refine ⟨l, rfl, ⟨_, SqL.of hl⟩, lc_ext (walk_list (K := K) (a := l) (xs := [V.ref p1, V.ref p2, V.ref p3, V.ref p4, V.ref p5])) (fun i ys _ => ys = (([Str.ofString "0", Str.ofString "20 - a", Str.ofString "-a + 2 b", Str.ofString "-3 - 4 c", Str.ofString "1"] : List Str).take i).map V.str) (fun i ys _ _ _ r => r) rfl (fun H' e => SqL.of (e _ _ hl)) (by show 5 ≤ 1000; decide) (fun i H x H' y => y.1 ▸ L2.Same.refl _) ?_ ?_⟩
  · rintro i ys x H14 H15 P N hi e14 rfl ⟨rfl, hx⟩ yes _
    obtain ⟨p', c, ts, rfl, hF, sm, ht⟩ := all i x hx
    walk_at "go"
    refine ⟨rfl, ?_⟩
    walk_at "go"
    refine str_form (hF.up e14) sm fun H16 e16 => ?_
    exact yes _ _ e16 (by rw [take_more ht, List.map_append]; rfl)
  · rintro D ys H14 nD e14 hD _ rfl
    walk_at "go"
    walk_at "nw"
    rename_i m nm H15 e15 hm
    refine ne_same (d := .list ([Str.ofString "0", Str.ofString "20 - a", Str.ofString "-a + 2 b", Str.ofString "-3 - 4 c", Str.ofString "1"].map PyData.str)) (dp_strs (SqL.of (e15 _ _ hD))) (dp_strs (xs := [Str.ofString "0", Str.ofString "20 - a", Str.ofString "-a + 2 b", Str.ofString "-3 - 4 c", Str.ofString "1"]) (SqL.of hm)) (sh_strs fun x hx => ?_) ?_
    · simp only [List.mem_cons, List.not_mem_nil, or_false] at hx
      rcases hx with rfl | rfl | rfl | rfl | rfl <;> exact ok_of _
    refine go_bl ?_
    refine go_F ?_
    refine go_next ?_
    exact law_all (i := 3) (σ := [some (.ref p), some (.ref l), none, none]) (by decide) (by show 3 < 4; decide) rfl (((S13.trans e14).trans e15).seq hp) hlen (fun b H R hb k => ⟨b, rfl, hb, k⟩) k
end
end SL

set_option Elab.async false
set_option linter.all false
set_option maxRecDepth 100000
set_option maxHeartbeats 4000000
namespace SL
open PySem L2
/-! ### the text by places -/
def topS (i : Nat) : Stmt := PySem.Challenge.pw_slackstrings_k06_whole_texts_of_forms.main.body.getD i (.Pass ⟨0, 0, 0, 0⟩)
abbrev st_are_small : Stmt := (topS 3)
abbrev st_is_integer : Stmt := (topS 2)
abbrev st_are_terms : Stmt := (topS 9)
abbrev st_Form___init__ : Stmt := (inClass (topS 13) 0)
abbrev st_piece_text : Stmt := (topS 11)
abbrev st_text_of : Stmt := (topS 12)
abbrev st_Form___str__ : Stmt := (inClass (topS 13) 7)
abbrev st__law_bag : Stmt := (topS 15)
abbrev st_form_of : Stmt := (topS 10)
abbrev st_Form___mul__ : Stmt := (inClass (topS 13) 4)
abbrev st_Form___neg__ : Stmt := (inClass (topS 13) 5)
abbrev st__law_draw : Stmt := (topS 16)
abbrev st__law_one : Stmt := (topS 17)
abbrev st__law_piece : Stmt := (topS 18)
abbrev st__law_written : Stmt := (topS 19)
abbrev st__law_right : Stmt := (topS 20)
abbrev st_law : Stmt := (topS 21)
theorem sc_are_small : FnScope nm_are_small ["value", "least", "most"] (defScope st_are_small) := ⟨rfl, rfl, rfl, by decide +kernel, rfl, by decide +kernel, by decide +kernel⟩
theorem sc_is_integer : FnScope nm_is_integer ["value"] (defScope st_is_integer) := ⟨rfl, rfl, rfl, by decide +kernel, rfl, by decide +kernel, by decide +kernel⟩
theorem sc_are_terms : FnScope nm_are_terms ["value"] (defScope st_are_terms) := ⟨rfl, rfl, rfl, by decide +kernel, rfl, by decide +kernel, by decide +kernel⟩
theorem sc_Form___init__ : FnScope nm_Form___init__ ["self", "constant", "terms"] (defScope st_Form___init__) := ⟨rfl, rfl, rfl, by decide +kernel, rfl, by decide +kernel, by decide +kernel⟩
theorem sc_piece_text : FnScope nm_piece_text ["times", "name"] (defScope st_piece_text) := ⟨rfl, rfl, rfl, by decide +kernel, rfl, by decide +kernel, by decide +kernel⟩
theorem sc_text_of : FnScope nm_text_of ["form"] (defScope st_text_of) := ⟨rfl, rfl, rfl, by decide +kernel, rfl, by decide +kernel, by decide +kernel⟩
theorem sc_Form___str__ : FnScope nm_Form___str__ ["self"] (defScope st_Form___str__) := ⟨rfl, rfl, rfl, by decide +kernel, rfl, by decide +kernel, by decide +kernel⟩
theorem sc__law_bag : FnScope nm__law_bag ["_law_cells", "_law_k"] (defScope st__law_bag) := ⟨rfl, rfl, rfl, by decide +kernel, rfl, by decide +kernel, by decide +kernel⟩
theorem sc_form_of : FnScope nm_form_of ["constant", "numbers"] (defScope st_form_of) := ⟨rfl, rfl, rfl, by decide +kernel, rfl, by decide +kernel, by decide +kernel⟩
theorem sc_Form___mul__ : FnScope nm_Form___mul__ ["self", "other"] (defScope st_Form___mul__) := ⟨rfl, rfl, rfl, by decide +kernel, rfl, by decide +kernel, by decide +kernel⟩
theorem sc_Form___neg__ : FnScope nm_Form___neg__ ["self"] (defScope st_Form___neg__) := ⟨rfl, rfl, rfl, by decide +kernel, rfl, by decide +kernel, by decide +kernel⟩
theorem sc__law_draw : FnScope nm__law_draw ["_law_bag_here", "_law_wide"] (defScope st__law_draw) := ⟨rfl, rfl, rfl, by decide +kernel, rfl, by decide +kernel, by decide +kernel⟩
theorem sc__law_one : FnScope nm__law_one ["_law_bag_here", "_law_some"] (defScope st__law_one) := ⟨rfl, rfl, rfl, by decide +kernel, rfl, by decide +kernel, by decide +kernel⟩
theorem sc__law_piece : FnScope nm__law_piece ["_law_size_here", "_law_called"] (defScope st__law_piece) := ⟨rfl, rfl, rfl, by decide +kernel, rfl, by decide +kernel, by decide +kernel⟩
theorem sc__law_written : FnScope nm__law_written ["_law_first", "_law_pairs"] (defScope st__law_written) := ⟨rfl, rfl, rfl, by decide +kernel, rfl, by decide +kernel, by decide +kernel⟩
theorem sc__law_right : FnScope nm__law_right ["_law_bag_here"] (defScope st__law_right) := ⟨rfl, rfl, rfl, by decide +kernel, rfl, by decide +kernel, by decide +kernel⟩
theorem sc_law : FnScope nm_law ["_law_cells"] (defScope st_law) := ⟨rfl, rfl, rfl, by decide +kernel, rfl, by decide +kernel, by decide +kernel⟩
/-- the defs' addresses and data -/
structure Fx where
  f_are_small : Addr
  d_are_small : FuncData
  f_is_integer : Addr
  d_is_integer : FuncData
  f_are_terms : Addr
  d_are_terms : FuncData
  f_Form___init__ : Addr
  d_Form___init__ : FuncData
  f_piece_text : Addr
  d_piece_text : FuncData
  f_text_of : Addr
  d_text_of : FuncData
  f_Form___str__ : Addr
  d_Form___str__ : FuncData
  f__law_bag : Addr
  d__law_bag : FuncData
  f_form_of : Addr
  d_form_of : FuncData
  f_Form___mul__ : Addr
  d_Form___mul__ : FuncData
  f_Form___neg__ : Addr
  d_Form___neg__ : FuncData
  f__law_draw : Addr
  d__law_draw : FuncData
  f__law_one : Addr
  d__law_one : FuncData
  f__law_piece : Addr
  d__law_piece : FuncData
  f__law_written : Addr
  d__law_written : FuncData
  f__law_right : Addr
  d__law_right : FuncData
  f_law : Addr
  d_law : FuncData
  fo_Form_mul : Option Value
  ro_Form_mul : Option Value
/-- what the top has written -/
structure Txt (K : PySem.W.Frag) (mg : Str → Option Value) (a : Cl) (x : Fx) : Prop where
  kf : KF K a
  in_Form : a.C_Form ∈ a.cls
  F_are_small : Fun K "are_small" "are_small" st_are_small x.f_are_small x.d_are_small
  b_are_small : Binds K x.d_are_small ["value", "least", "most"] []
  F_is_integer : Fun K "is_integer" "is_integer" st_is_integer x.f_is_integer x.d_is_integer
  b_is_integer : Binds K x.d_is_integer ["value"] []
  F_are_terms : Fun K "are_terms" "are_terms" st_are_terms x.f_are_terms x.d_are_terms
  b_are_terms : Binds K x.d_are_terms ["value"] []
  F_Form___init__ : FunD K "__init__" "Form.__init__" (defArgs st_Form___init__) (defBody st_Form___init__) (defScope st_Form___init__) [.int 0, .ref a.emp] [] x.f_Form___init__ x.d_Form___init__
  b_Form___init__ : Binds K x.d_Form___init__ ["self", "constant", "terms"] []
  F_piece_text : Fun K "piece_text" "piece_text" st_piece_text x.f_piece_text x.d_piece_text
  b_piece_text : Binds K x.d_piece_text ["times", "name"] []
  F_text_of : Fun K "text_of" "text_of" st_text_of x.f_text_of x.d_text_of
  b_text_of : Binds K x.d_text_of ["form"] []
  F_Form___str__ : Fun K "__str__" "Form.__str__" st_Form___str__ x.f_Form___str__ x.d_Form___str__
  b_Form___str__ : Binds K x.d_Form___str__ ["self"] []
  F__law_bag : Fun K "_law_bag" "_law_bag" st__law_bag x.f__law_bag x.d__law_bag
  b__law_bag : Binds K x.d__law_bag ["_law_cells", "_law_k"] []
  F_form_of : Fun K "form_of" "form_of" st_form_of x.f_form_of x.d_form_of
  b_form_of : Binds K x.d_form_of ["constant", "numbers"] []
  F_Form___mul__ : Fun K "__mul__" "Form.__mul__" st_Form___mul__ x.f_Form___mul__ x.d_Form___mul__
  b_Form___mul__ : Binds K x.d_Form___mul__ ["self", "other"] []
  F_Form___neg__ : Fun K "__neg__" "Form.__neg__" st_Form___neg__ x.f_Form___neg__ x.d_Form___neg__
  b_Form___neg__ : Binds K x.d_Form___neg__ ["self"] []
  F__law_draw : Fun K "_law_draw" "_law_draw" st__law_draw x.f__law_draw x.d__law_draw
  b__law_draw : Binds K x.d__law_draw ["_law_bag_here", "_law_wide"] []
  F__law_one : Fun K "_law_one" "_law_one" st__law_one x.f__law_one x.d__law_one
  b__law_one : Binds K x.d__law_one ["_law_bag_here", "_law_some"] []
  F__law_piece : Fun K "_law_piece" "_law_piece" st__law_piece x.f__law_piece x.d__law_piece
  b__law_piece : Binds K x.d__law_piece ["_law_size_here", "_law_called"] []
  F__law_written : Fun K "_law_written" "_law_written" st__law_written x.f__law_written x.d__law_written
  b__law_written : Binds K x.d__law_written ["_law_first", "_law_pairs"] []
  F__law_right : Fun K "_law_right" "_law_right" st__law_right x.f__law_right x.d__law_right
  b__law_right : Binds K x.d__law_right ["_law_bag_here"] []
  F_law : Fun K "law" "law" st_law x.f_law x.d_law
  b_law : Binds K x.d_law ["_law_cells"] []
  g__law_bag : mg "_law_bag" = some (.ref x.f__law_bag)
  g__law_draw : mg "_law_draw" = some (.ref x.f__law_draw)
  g__law_one : mg "_law_one" = some (.ref x.f__law_one)
  g__law_piece : mg "_law_piece" = some (.ref x.f__law_piece)
  g__law_right : mg "_law_right" = some (.ref x.f__law_right)
  g__law_written : mg "_law_written" = some (.ref x.f__law_written)
  g_are_small : mg "are_small" = some (.ref x.f_are_small)
  g_are_terms : mg "are_terms" = some (.ref x.f_are_terms)
  g_form_of : mg "form_of" = some (.ref x.f_form_of)
  g_is_integer : mg "is_integer" = some (.ref x.f_is_integer)
  g_piece_text : mg "piece_text" = some (.ref x.f_piece_text)
  g_text_of : mg "text_of" = some (.ref x.f_text_of)
  n_abs : mg "abs" = none
  n_all : mg "all" = none
  n_bool : mg "bool" = none
  n_int : mg "int" = none
  n_isinstance : mg "isinstance" = none
  n_len : mg "len" = none
  n_max : mg "max" = none
  n_min : mg "min" = none
  n_range : mg "range" = none
  n_sorted : mg "sorted" = none
  n_str : mg "str" = none
  n_tuple : mg "tuple" = none
  n_zip : mg "zip" = none
  g_Form : mg "Form" = some (.ref a.C_Form)
  cl_Form : Cls K a.C_Form
  sf_Form : PySem.W.selfFirst K a.C_Form = true
  int_Form : PySem.W.subIn K (.type "int") (.ref a.C_Form) = some false
  sub_Form : PySem.W.subIn K (.ref a.C_Form) (.type "int") = some false
  mk_Form : Mk K a.C_Form x.f_Form___init__
  na_Form_constant : NoAttr K a.C_Form "constant"
  na_Form_names : NoAttr K a.C_Form "names"
  na_Form_terms : NoAttr K a.C_Form "terms"
  o_Form_mul : OwnOp K a.C_Form x.f_Form___mul__ (PySem.dunder "mul")
  nr_Form_mul : PySem.W.findIn K (.ref a.C_Form) (dunderR "mul") = some none
  i1_Form_mul : PySem.W.findIn K (.type "int") (PySem.dunder "mul") = some x.fo_Form_mul
  i2_Form_mul : PySem.W.findIn K (.type "int") (dunderR "mul") = some x.ro_Form_mul
  o_Form_neg : OwnOp K a.C_Form x.f_Form___neg__ "__neg__"
  o_Form_str : OwnOp K a.C_Form x.f_Form___str__ "__str__"
  emp : EmpOk K a
  bd_Form___init___1 : ∃ ds, Vals [.ref a.emp] ds ∧ Binds K x.d_Form___init__ ["self", "constant", "terms"] ds
  bd_Form___init___2 : ∃ ds, Vals [.int 0, .ref a.emp] ds ∧ Binds K x.d_Form___init__ ["self", "constant", "terms"] ds
theorem Txt.kp_are_small {K : PySem.W.Frag} {mg : Str → Option Value} {a : Cl} {x : Fx} (T : Txt K mg a x) : PySem.W.keepIn K (.ref x.f_are_small) = true := T.F_are_small.kp
theorem Txt.kp_is_integer {K : PySem.W.Frag} {mg : Str → Option Value} {a : Cl} {x : Fx} (T : Txt K mg a x) : PySem.W.keepIn K (.ref x.f_is_integer) = true := T.F_is_integer.kp
theorem Txt.kp_are_terms {K : PySem.W.Frag} {mg : Str → Option Value} {a : Cl} {x : Fx} (T : Txt K mg a x) : PySem.W.keepIn K (.ref x.f_are_terms) = true := T.F_are_terms.kp
theorem Txt.kp_Form___init__ {K : PySem.W.Frag} {mg : Str → Option Value} {a : Cl} {x : Fx} (T : Txt K mg a x) : PySem.W.keepIn K (.ref x.f_Form___init__) = true := T.F_Form___init__.kp
theorem Txt.kp_piece_text {K : PySem.W.Frag} {mg : Str → Option Value} {a : Cl} {x : Fx} (T : Txt K mg a x) : PySem.W.keepIn K (.ref x.f_piece_text) = true := T.F_piece_text.kp
theorem Txt.kp_text_of {K : PySem.W.Frag} {mg : Str → Option Value} {a : Cl} {x : Fx} (T : Txt K mg a x) : PySem.W.keepIn K (.ref x.f_text_of) = true := T.F_text_of.kp
theorem Txt.kp_Form___str__ {K : PySem.W.Frag} {mg : Str → Option Value} {a : Cl} {x : Fx} (T : Txt K mg a x) : PySem.W.keepIn K (.ref x.f_Form___str__) = true := T.F_Form___str__.kp
theorem Txt.kp__law_bag {K : PySem.W.Frag} {mg : Str → Option Value} {a : Cl} {x : Fx} (T : Txt K mg a x) : PySem.W.keepIn K (.ref x.f__law_bag) = true := T.F__law_bag.kp
theorem Txt.kp_form_of {K : PySem.W.Frag} {mg : Str → Option Value} {a : Cl} {x : Fx} (T : Txt K mg a x) : PySem.W.keepIn K (.ref x.f_form_of) = true := T.F_form_of.kp
theorem Txt.kp_Form___mul__ {K : PySem.W.Frag} {mg : Str → Option Value} {a : Cl} {x : Fx} (T : Txt K mg a x) : PySem.W.keepIn K (.ref x.f_Form___mul__) = true := T.F_Form___mul__.kp
theorem Txt.kp_Form___neg__ {K : PySem.W.Frag} {mg : Str → Option Value} {a : Cl} {x : Fx} (T : Txt K mg a x) : PySem.W.keepIn K (.ref x.f_Form___neg__) = true := T.F_Form___neg__.kp
theorem Txt.kp__law_draw {K : PySem.W.Frag} {mg : Str → Option Value} {a : Cl} {x : Fx} (T : Txt K mg a x) : PySem.W.keepIn K (.ref x.f__law_draw) = true := T.F__law_draw.kp
theorem Txt.kp__law_one {K : PySem.W.Frag} {mg : Str → Option Value} {a : Cl} {x : Fx} (T : Txt K mg a x) : PySem.W.keepIn K (.ref x.f__law_one) = true := T.F__law_one.kp
theorem Txt.kp__law_piece {K : PySem.W.Frag} {mg : Str → Option Value} {a : Cl} {x : Fx} (T : Txt K mg a x) : PySem.W.keepIn K (.ref x.f__law_piece) = true := T.F__law_piece.kp
theorem Txt.kp__law_written {K : PySem.W.Frag} {mg : Str → Option Value} {a : Cl} {x : Fx} (T : Txt K mg a x) : PySem.W.keepIn K (.ref x.f__law_written) = true := T.F__law_written.kp
theorem Txt.kp__law_right {K : PySem.W.Frag} {mg : Str → Option Value} {a : Cl} {x : Fx} (T : Txt K mg a x) : PySem.W.keepIn K (.ref x.f__law_right) = true := T.F__law_right.kp
theorem Txt.kp_law {K : PySem.W.Frag} {mg : Str → Option Value} {a : Cl} {x : Fx} (T : Txt K mg a x) : PySem.W.keepIn K (.ref x.f_law) = true := T.F_law.kp
section
variable {P : Program} {w : World} {K : PySem.W.Frag} {mg : Str → Option Value} {base : Heap} {a : Cl} {x : Fx}
theorem ok_are_small (T : Txt K mg a x) : FnOk P w K mg base (L2.CX P w) 1 x.f_are_small x.d_are_small ["value", "least", "most"] (sp_are_small K a) := by
  refine T.F_are_small.okX sc_are_small (fun vs H Q E h => by first | (obtain ⟨_, rfl, _⟩ := h; rfl) | (obtain ⟨_, _, rfl, _⟩ := h; rfl) | (obtain ⟨_, _, _, rfl, _⟩ := h; rfl) | (obtain ⟨_, _, _, _, rfl, _⟩ := h; rfl) | (obtain ⟨_, _, _, _, _, rfl, _⟩ := h; rfl) | (obtain ⟨_, _, _, _, _, _, rfl, _⟩ := h; rfl) | (obtain ⟨_, _, _, _, _, _, _, rfl, _⟩ := h; rfl)) (fun cdv A outer s H vs Q E hr h => ?_)
  have pE : Passes (L2.CX P w) (cxOf (L2.CX P w) P w K mg base nm_are_small "are_small" (defScope st_are_small) x.f_are_small cdv A outer s H E) E := passes_call (takes_of rfl rfl rfl rfl) fun _ _ _ _ h => h
  have pO : PassesOwn (model P w) (cxOf (L2.CX P w) P w K mg base nm_are_small "are_small" (defScope st_are_small) x.f_are_small cdv A outer s H E).A (cxOf (L2.CX P w) P w K mg base nm_are_small "are_small" (defScope st_are_small) x.f_are_small cdv A outer s H E).env (cxOf (L2.CX P w) P w K mg base nm_are_small "are_small" (defScope st_are_small) x.f_are_small cdv A outer s H E).xe := passes_of rfl
  exact ⟨rd_are_small K a E, ((pss_cons (ps_if (PW.pt (pw_or (pt_not (pt_val (pe_callB call_isi (by rfl) T.n_isinstance (by decide +kernel) (pa_cons (pv 0) (pa_cons (pe_bltn (v := .ty "str") (by rfl) T.n_str (by decide +kernel) rfl) pa_nil))))) (pw_or1 (pt_not (pt_chain op_le op_le (pv 1) (pe_callB call_lenX (by rfl) T.n_len (by decide +kernel) (pa_cons (pv 0) pa_nil)) (pv 2)))))) (pss_one (ps_ret pe_bl)) pss_nil)
  (pss_one (ps_ret (pe_callB (cr_all rfl) (by rfl) T.n_all (by decide +kernel) (pa_cons (pe_lc (own := [("sign", 3)]) rfl sc_are_small.nd (pi_str (pv 0)) (blkOk_by (own := [("sign", 3)]) (N := nm_are_small) (sc := defScope st_are_small) (by decide +kernel)) (fun _ _ _ _ _ => (pg_name (i := 3) sc_are_small.nd rfl (by first | exact Or.inl rfl | exact Or.inr rfl))) (fun _ _ _ _ _ => pts_nil) (fun _ _ _ _ _ => (pe_chain op_leS op_leS pe_str (pv 3) pe_str))) pa_nil)))))), read_are_small T.kf h⟩
theorem ok_is_integer (T : Txt K mg a x) : FnOk P w K mg base (L2.CX P w) 1 x.f_is_integer x.d_is_integer ["value"] (sp_is_integer K a) := by
  refine T.F_is_integer.okX sc_is_integer (fun vs H Q E h => by first | (obtain ⟨_, rfl, _⟩ := h; rfl) | (obtain ⟨_, _, rfl, _⟩ := h; rfl) | (obtain ⟨_, _, _, rfl, _⟩ := h; rfl) | (obtain ⟨_, _, _, _, rfl, _⟩ := h; rfl) | (obtain ⟨_, _, _, _, _, rfl, _⟩ := h; rfl) | (obtain ⟨_, _, _, _, _, _, rfl, _⟩ := h; rfl) | (obtain ⟨_, _, _, _, _, _, _, rfl, _⟩ := h; rfl)) (fun cdv A outer s H vs Q E hr h => ?_)
  have pE : Passes (L2.CX P w) (cxOf (L2.CX P w) P w K mg base nm_is_integer "is_integer" (defScope st_is_integer) x.f_is_integer cdv A outer s H E) E := passes_call (takes_of rfl rfl rfl rfl) fun _ _ _ _ h => h
  have pO : PassesOwn (model P w) (cxOf (L2.CX P w) P w K mg base nm_is_integer "is_integer" (defScope st_is_integer) x.f_is_integer cdv A outer s H E).A (cxOf (L2.CX P w) P w K mg base nm_is_integer "is_integer" (defScope st_is_integer) x.f_is_integer cdv A outer s H E).env (cxOf (L2.CX P w) P w K mg base nm_is_integer "is_integer" (defScope st_is_integer) x.f_is_integer cdv A outer s H E).xe := passes_of rfl
  exact ⟨rd_is_integer K a E, ((pss_one (ps_ret (pe_and (pe_callB call_isi (by rfl) T.n_isinstance (by decide +kernel) (pa_cons (pv 0) (pa_cons (pe_bltn (v := .ty "int") (by rfl) T.n_int (by decide +kernel) rfl) pa_nil))) (pe_one (pe_not (pe_callB call_isi (by rfl) T.n_isinstance (by decide +kernel) (pa_cons (pv 0) (pa_cons (pe_bltn (v := .ty "bool") (by rfl) T.n_bool (by decide +kernel) rfl) pa_nil))))))))), read_is_integer T.kf h⟩
theorem ok_are_terms (T : Txt K mg a x) : FnOk P w K mg base (L2.CX P w) 3 x.f_are_terms x.d_are_terms ["value"] (sp_are_terms K a) := by
  refine T.F_are_terms.okX sc_are_terms (fun vs H Q E h => by first | (obtain ⟨_, rfl, _⟩ := h; rfl) | (obtain ⟨_, _, rfl, _⟩ := h; rfl) | (obtain ⟨_, _, _, rfl, _⟩ := h; rfl) | (obtain ⟨_, _, _, _, rfl, _⟩ := h; rfl) | (obtain ⟨_, _, _, _, _, rfl, _⟩ := h; rfl) | (obtain ⟨_, _, _, _, _, _, rfl, _⟩ := h; rfl) | (obtain ⟨_, _, _, _, _, _, _, rfl, _⟩ := h; rfl)) (fun cdv A outer s H vs Q E hr h => ?_)
  have pE : Passes (L2.CX P w) (cxOf (L2.CX P w) P w K mg base nm_are_terms "are_terms" (defScope st_are_terms) x.f_are_terms cdv A outer s H E) E := passes_call (takes_of rfl rfl rfl rfl) fun _ _ _ _ h => h
  have pO : PassesOwn (model P w) (cxOf (L2.CX P w) P w K mg base nm_are_terms "are_terms" (defScope st_are_terms) x.f_are_terms cdv A outer s H E).A (cxOf (L2.CX P w) P w K mg base nm_are_terms "are_terms" (defScope st_are_terms) x.f_are_terms cdv A outer s H E).env (cxOf (L2.CX P w) P w K mg base nm_are_terms "are_terms" (defScope st_are_terms) x.f_are_terms cdv A outer s H E).xe := passes_of rfl
  exact ⟨rd_are_terms K a E, ((pss_cons (ps_if (pt_not (pt_val (pe_callB call_isi (by rfl) T.n_isinstance (by decide +kernel) (pa_cons (pv 0) (pa_cons (pe_bltn (v := .ty "tuple") (by rfl) T.n_tuple (by decide +kernel) rfl) pa_nil))))) (pss_one (ps_ret pe_bl)) pss_nil)
  (pss_cons (ps_set (i := 1) sc_are_terms.nd rfl (by first | exact Or.inl rfl | exact Or.inr rfl) pe_str)
  (pss_cons (ps_for pO rfl (pi_tup (pv 0)) (pg_name (i := 2) sc_are_terms.nd rfl (by first | exact Or.inl rfl | exact Or.inr rfl)) (pss_cons (ps_if (PW.pt (pw_or (pt_not (pt_val (pe_callB call_isi (by rfl) T.n_isinstance (by decide +kernel) (pa_cons (pv 2) (pa_cons (pe_bltn (v := .ty "tuple") (by rfl) T.n_tuple (by decide +kernel) rfl) pa_nil))))) (pw_or (pt_cmpR op_ne (pe_callB call_lenX (by rfl) T.n_len (by decide +kernel) (pa_cons (pv 2) pa_nil)) pe_int (nomark _)) (pw_or (pt_not (pt_val (pe_call (ok_are_small T) (hr.mono (by decide)) rfl T.g_are_small T.kp_are_small T.b_are_small .nil pE (pa_cons (pe_ix ix_tup (pv 2) pe_int (fun _ _ => rfl)) (pa_cons pe_int (pa_cons pe_int pa_nil)))))) (pw_or1 (pt_cmpR op_leS (pe_ix ix_tup (pv 2) pe_int (fun _ _ => rfl)) (pv 1) (nomark _))))))) (pss_one (ps_ret pe_bl)) pss_nil)
  (pss_cons (ps_if (PW.pt (pw_or (pt_not (pt_val (pe_call (ok_is_integer T) (hr.mono (by decide)) rfl T.g_is_integer T.kp_is_integer T.b_is_integer .nil pE (pa_cons (pe_ix ix_tup (pv 2) pe_int (fun _ _ => rfl)) pa_nil)))) (pw_or1 (pt_cmpR op_eq (pe_ix ix_tup (pv 2) pe_int (fun _ _ => rfl)) pe_int (nomark _))))) (pss_one (ps_ret pe_bl)) pss_nil)
  (pss_one (ps_set (i := 1) sc_are_terms.nd rfl (by first | exact Or.inl rfl | exact Or.inr rfl) (pe_ix ix_tup (pv 2) pe_int (fun _ _ => rfl)))))))
  (pss_one (ps_ret pe_bl)))))), read_are_terms T.kf h⟩
theorem ok_Form___init__ (T : Txt K mg a x) : FnOk P w K mg base (L2.CX P w) 5 x.f_Form___init__ x.d_Form___init__ ["self", "constant", "terms"] (sp_Form___init__ K a) := by
  refine FunD.ok (CX := L2.CX P w) T.F_Form___init__ sc_Form___init__ (fun vs H Q E h => by first | (obtain ⟨_, rfl, _⟩ := h; rfl) | (obtain ⟨_, _, rfl, _⟩ := h; rfl) | (obtain ⟨_, _, _, rfl, _⟩ := h; rfl) | (obtain ⟨_, _, _, _, rfl, _⟩ := h; rfl) | (obtain ⟨_, _, _, _, _, rfl, _⟩ := h; rfl) | (obtain ⟨_, _, _, _, _, _, rfl, _⟩ := h; rfl) | (obtain ⟨_, _, _, _, _, _, _, rfl, _⟩ := h; rfl)) (fun cdv A outer s H vs Q E hr h => ?_)
  have pE : Passes (L2.CX P w) (cxOf (L2.CX P w) P w K mg base nm_Form___init__ "Form.__init__" (defScope st_Form___init__) x.f_Form___init__ cdv A outer s H E) E := passes_call (takes_of rfl rfl rfl rfl) fun _ _ _ _ h => h
  have pO : PassesOwn (model P w) (cxOf (L2.CX P w) P w K mg base nm_Form___init__ "Form.__init__" (defScope st_Form___init__) x.f_Form___init__ cdv A outer s H E).A (cxOf (L2.CX P w) P w K mg base nm_Form___init__ "Form.__init__" (defScope st_Form___init__) x.f_Form___init__ cdv A outer s H E).env (cxOf (L2.CX P w) P w K mg base nm_Form___init__ "Form.__init__" (defScope st_Form___init__) x.f_Form___init__ cdv A outer s H E).xe := passes_of rfl
  exact ⟨rd_Form___init__ K a E, ((pss_cons (ps_if (pt_not (pt_val (pe_call (ok_is_integer T) (hr.mono (by decide)) rfl T.g_is_integer T.kp_is_integer T.b_is_integer .nil pE (pa_cons (pv 1) pa_nil)))) (pss_one ps_never) pss_nil)
  (pss_cons (ps_if (pt_not (pt_val (pe_call (ok_are_terms T) (hr.mono (by decide)) rfl T.g_are_terms T.kp_are_terms T.b_are_terms .nil pE (pa_cons (pv 2) pa_nil)))) (pss_one ps_never) pss_nil)
  (pss_cons (ps_fldC T.cl_Form T.na_Form_constant (pv 0) (pv 1))
  (pss_cons (ps_fldC T.cl_Form T.na_Form_terms (pv 0) (pv 2))
  (pss_one (ps_fldC T.cl_Form T.na_Form_names (pv 0) (pe_m1 PySem.F.slot_str_join PySem.F.type_str_join mt_joinX pe_str (pe_lc (own := [("pair", 3)]) rfl sc_Form___init__.nd (pi_tup (pv 2)) (blkOk_by (own := [("pair", 3)]) (N := nm_Form___init__) (sc := defScope st_Form___init__) (by decide +kernel)) (fun _ _ _ _ _ => (pg_name (i := 3) sc_Form___init__.nd rfl (by first | exact Or.inl rfl | exact Or.inr rfl))) (fun _ _ _ _ _ => pts_nil) (fun _ _ _ _ _ => (pe_ix ix_tup (pv 3) pe_int (fun _ _ => rfl)))))))))))), read_Form___init__ T.kf h⟩
theorem ok_piece_text (T : Txt K mg a x) : FnOk P w K mg base (L2.CX P w) 1 x.f_piece_text x.d_piece_text ["times", "name"] (sp_piece_text K a) := by
  refine T.F_piece_text.okX sc_piece_text (fun vs H Q E h => by first | (obtain ⟨_, rfl, _⟩ := h; rfl) | (obtain ⟨_, _, rfl, _⟩ := h; rfl) | (obtain ⟨_, _, _, rfl, _⟩ := h; rfl) | (obtain ⟨_, _, _, _, rfl, _⟩ := h; rfl) | (obtain ⟨_, _, _, _, _, rfl, _⟩ := h; rfl) | (obtain ⟨_, _, _, _, _, _, rfl, _⟩ := h; rfl) | (obtain ⟨_, _, _, _, _, _, _, rfl, _⟩ := h; rfl)) (fun cdv A outer s H vs Q E hr h => ?_)
  have pE : Passes (L2.CX P w) (cxOf (L2.CX P w) P w K mg base nm_piece_text "piece_text" (defScope st_piece_text) x.f_piece_text cdv A outer s H E) E := passes_call (takes_of rfl rfl rfl rfl) fun _ _ _ _ h => h
  have pO : PassesOwn (model P w) (cxOf (L2.CX P w) P w K mg base nm_piece_text "piece_text" (defScope st_piece_text) x.f_piece_text cdv A outer s H E).A (cxOf (L2.CX P w) P w K mg base nm_piece_text "piece_text" (defScope st_piece_text) x.f_piece_text cdv A outer s H E).env (cxOf (L2.CX P w) P w K mg base nm_piece_text "piece_text" (defScope st_piece_text) x.f_piece_text cdv A outer s H E).xe := passes_of rfl
  exact ⟨rd_piece_text K a E, ((pss_one (ps_ret (pe_ifExp (pt_cmpR op_eq (pe_callB call_absX (by rfl) T.n_abs (by decide +kernel) (pa_cons (pv 0) pa_nil)) pe_int (nomark _)) (pv 1) (pe_joinedX (.cons (pe_fmt (pe_callB call_absX (by rfl) T.n_abs (by decide +kernel) (pa_cons (pv 0) pa_nil))) (.cons pe_str (.cons (pe_fmt (pv 1)) .nil)))))))), read_piece_text  h⟩
theorem ok_text_of (T : Txt K mg a x) : FnOk P w K mg base (L2.CX P w) 3 x.f_text_of x.d_text_of ["form"] (sp_text_of K a) := by
  refine T.F_text_of.okX sc_text_of (fun vs H Q E h => by first | (obtain ⟨_, rfl, _⟩ := h; rfl) | (obtain ⟨_, _, rfl, _⟩ := h; rfl) | (obtain ⟨_, _, _, rfl, _⟩ := h; rfl) | (obtain ⟨_, _, _, _, rfl, _⟩ := h; rfl) | (obtain ⟨_, _, _, _, _, rfl, _⟩ := h; rfl) | (obtain ⟨_, _, _, _, _, _, rfl, _⟩ := h; rfl) | (obtain ⟨_, _, _, _, _, _, _, rfl, _⟩ := h; rfl)) (fun cdv A outer s H vs Q E hr h => ?_)
  have pE : Passes (L2.CX P w) (cxOf (L2.CX P w) P w K mg base nm_text_of "text_of" (defScope st_text_of) x.f_text_of cdv A outer s H E) E := passes_call (takes_of rfl rfl rfl rfl) fun _ _ _ _ h => h
  have pO : PassesOwn (model P w) (cxOf (L2.CX P w) P w K mg base nm_text_of "text_of" (defScope st_text_of) x.f_text_of cdv A outer s H E).A (cxOf (L2.CX P w) P w K mg base nm_text_of "text_of" (defScope st_text_of) x.f_text_of cdv A outer s H E).env (cxOf (L2.CX P w) P w K mg base nm_text_of "text_of" (defScope st_text_of) x.f_text_of cdv A outer s H E).xe := passes_of rfl
  exact ⟨rd_text_of K a E, ((pss_cons (ps_par (i := 1) (j := 2) rfl sc_text_of.nd rfl rfl (by decide) rfl rfl (pa_cons (pe_lc (own := [("name", 3), ("times", 4)]) rfl sc_text_of.nd (pi_tup (pe_fldC T.cl_Form T.na_Form_terms (pv 0))) (blkOk_by (own := [("name", 3), ("times", 4)]) (N := nm_text_of) (sc := defScope st_text_of) (by decide +kernel)) (fun _ _ _ _ _ => (pg_tup rfl (pgs_cons (pg_name (i := 3) sc_text_of.nd rfl (by first | exact Or.inl rfl | exact Or.inr rfl)) (pgs_cons (pg_name (i := 4) sc_text_of.nd rfl (by first | exact Or.inl rfl | exact Or.inr rfl)) pgs_nil)))) (fun _ _ _ _ _ => pts_nil) (fun _ _ _ _ _ => (pe_cmpR op_lt (pv 4) pe_int (nomark _)))) (pa_cons (pe_lc (own := [("name", 3), ("times", 4)]) rfl sc_text_of.nd (pi_tup (pe_fldC T.cl_Form T.na_Form_terms (pv 0))) (blkOk_by (own := [("name", 3), ("times", 4)]) (N := nm_text_of) (sc := defScope st_text_of) (by decide +kernel)) (fun _ _ _ _ _ => (pg_tup rfl (pgs_cons (pg_name (i := 3) sc_text_of.nd rfl (by first | exact Or.inl rfl | exact Or.inr rfl)) (pgs_cons (pg_name (i := 4) sc_text_of.nd rfl (by first | exact Or.inl rfl | exact Or.inr rfl)) pgs_nil)))) (fun _ _ _ _ _ => pts_nil) (fun _ _ _ _ _ => (pe_call (ok_piece_text T) (hr.mono (by decide)) rfl T.g_piece_text T.kp_piece_text T.b_piece_text .nil passL (pa_cons (pv 4) (pa_cons (pv 3) pa_nil))))) pa_nil)) (by rfl))
  (pss_cons (ps_if (PW.pt (pw_or (pt_cmpR op_ne (pe_fldC T.cl_Form T.na_Form_constant (pv 0)) pe_int (nomark _)) (pw_or1 (pt_cmpR (op_eqD hr.units) (pv 2) (pe_lst pa_nil) (nomark _))))) (pss_one (ps_par (i := 1) (j := 2) rfl sc_text_of.nd rfl rfl (by decide) rfl rfl (pa_cons (pe_op op_cat (pe_lst (pa_cons (pe_cmpR op_lt (pe_fldC T.cl_Form T.na_Form_constant (pv 0)) pe_int (nomark _)) pa_nil)) (pv 1)) (pa_cons (pe_op op_cat (pe_lst (pa_cons (pe_callTy call_strIX (by rfl) T.n_str (by decide +kernel) (pa_cons (pe_callB call_absX (by rfl) T.n_abs (by decide +kernel) (pa_cons (pe_fldC T.cl_Form T.na_Form_constant (pv 0)) pa_nil)) pa_nil)) pa_nil)) (pv 2)) pa_nil)) (by rfl))) pss_nil)
  (pss_cons (ps_set (i := 5) sc_text_of.nd rfl (by first | exact Or.inl rfl | exact Or.inr rfl) (pe_ifExp (pt_val (pe_ix ix_list (pv 1) pe_int (fun _ _ => rfl))) (pe_op op_addSt pe_str (pe_ix ix_list (pv 2) pe_int (fun _ _ => rfl))) (pe_ix ix_list (pv 2) pe_int (fun _ _ => rfl))))
  (pss_cons (ps_for pO rfl (pi_zip (by rfl) T.n_zip (pa_cons (pe_slice sl_list (pv 1) (po_some pe_int) po_none) (pa_cons (pe_slice sl_list (pv 2) (po_some pe_int) po_none) pa_nil))) (pg_tup rfl (pgs_cons (pg_name (i := 6) sc_text_of.nd rfl (by first | exact Or.inl rfl | exact Or.inr rfl)) (pgs_cons (pg_name (i := 7) sc_text_of.nd rfl (by first | exact Or.inl rfl | exact Or.inr rfl)) pgs_nil))) (pss_one (ps_set (i := 5) sc_text_of.nd rfl (by first | exact Or.inl rfl | exact Or.inr rfl) (pe_op op_addSt (pe_op op_addSt (pv 5) (pe_ifExp (pt_val (pv 6)) pe_str pe_str)) (pv 7)))))
  (pss_one (ps_ret (pv 5)))))))), read_text_of  h⟩
theorem ok_Form___str__ (T : Txt K mg a x) : FnOk P w K mg base (L2.CX P w) 5 x.f_Form___str__ x.d_Form___str__ ["self"] (sp_Form___str__ K a) := by
  refine T.F_Form___str__.okX sc_Form___str__ (fun vs H Q E h => by first | (obtain ⟨_, rfl, _⟩ := h; rfl) | (obtain ⟨_, _, rfl, _⟩ := h; rfl) | (obtain ⟨_, _, _, rfl, _⟩ := h; rfl) | (obtain ⟨_, _, _, _, rfl, _⟩ := h; rfl) | (obtain ⟨_, _, _, _, _, rfl, _⟩ := h; rfl) | (obtain ⟨_, _, _, _, _, _, rfl, _⟩ := h; rfl) | (obtain ⟨_, _, _, _, _, _, _, rfl, _⟩ := h; rfl)) (fun cdv A outer s H vs Q E hr h => ?_)
  have pE : Passes (L2.CX P w) (cxOf (L2.CX P w) P w K mg base nm_Form___str__ "Form.__str__" (defScope st_Form___str__) x.f_Form___str__ cdv A outer s H E) E := passes_call (takes_of rfl rfl rfl rfl) fun _ _ _ _ h => h
  have pO : PassesOwn (model P w) (cxOf (L2.CX P w) P w K mg base nm_Form___str__ "Form.__str__" (defScope st_Form___str__) x.f_Form___str__ cdv A outer s H E).A (cxOf (L2.CX P w) P w K mg base nm_Form___str__ "Form.__str__" (defScope st_Form___str__) x.f_Form___str__ cdv A outer s H E).env (cxOf (L2.CX P w) P w K mg base nm_Form___str__ "Form.__str__" (defScope st_Form___str__) x.f_Form___str__ cdv A outer s H E).xe := passes_of rfl
  exact ⟨rd_Form___str__ K a E, ((pss_one (ps_ret (pe_joined1 (pe_fmt (pe_call (ok_text_of T) (hr.mono (by decide)) rfl T.g_text_of T.kp_text_of T.b_text_of .nil pE (pa_cons (pv 0) pa_nil))))))), read_Form___str__  h⟩
theorem ok__law_bag (T : Txt K mg a x) : FnOk P w K mg base (L2.CX P w) 1 x.f__law_bag x.d__law_bag ["_law_cells", "_law_k"] (sp__law_bag K a) := by
  refine T.F__law_bag.okX sc__law_bag (fun vs H Q E h => by first | (obtain ⟨_, rfl, _⟩ := h; rfl) | (obtain ⟨_, _, rfl, _⟩ := h; rfl) | (obtain ⟨_, _, _, rfl, _⟩ := h; rfl) | (obtain ⟨_, _, _, _, rfl, _⟩ := h; rfl) | (obtain ⟨_, _, _, _, _, rfl, _⟩ := h; rfl) | (obtain ⟨_, _, _, _, _, _, rfl, _⟩ := h; rfl) | (obtain ⟨_, _, _, _, _, _, _, rfl, _⟩ := h; rfl)) (fun cdv A outer s H vs Q E hr h => ?_)
  have pE : Passes (L2.CX P w) (cxOf (L2.CX P w) P w K mg base nm__law_bag "_law_bag" (defScope st__law_bag) x.f__law_bag cdv A outer s H E) E := passes_call (takes_of rfl rfl rfl rfl) fun _ _ _ _ h => h
  have pO : PassesOwn (model P w) (cxOf (L2.CX P w) P w K mg base nm__law_bag "_law_bag" (defScope st__law_bag) x.f__law_bag cdv A outer s H E).A (cxOf (L2.CX P w) P w K mg base nm__law_bag "_law_bag" (defScope st__law_bag) x.f__law_bag cdv A outer s H E).env (cxOf (L2.CX P w) P w K mg base nm__law_bag "_law_bag" (defScope st__law_bag) x.f__law_bag cdv A outer s H E).xe := passes_of rfl
  exact ⟨rd__law_bag K a E, ((pss_cons (ps_par (i := 2) (j := 3) rfl sc__law_bag.nd rfl rfl (by decide) rfl rfl (pa_cons (pe_ifExp (pt_cmpR op_lt (pv 1) (pe_callB call_lenX (by rfl) T.n_len (by decide +kernel) (pa_cons (pv 0) pa_nil)) (nomark _)) (pe_callTy call_int1X (by rfl) T.n_int (by decide +kernel) (pa_cons (pe_ix ix_list (pv 0) (pv 1) (fun _ _ => rfl)) pa_nil)) pe_int) (pa_cons (pe_op op_mulM pe_int (pe_op op_add (pv 1) pe_int)) pa_nil)) (by rfl))
  (pss_cons (ps_for pO rfl (pi_list (pe_slice sl_list (pv 0) po_none (po_some pe_int))) (pg_name (i := 4) sc__law_bag.nd rfl (by first | exact Or.inl rfl | exact Or.inr rfl)) (pss_one (ps_set (i := 3) sc__law_bag.nd rfl (by first | exact Or.inl rfl | exact Or.inr rfl) (pe_op op_modN (pe_callTy call_int1X (by rfl) T.n_int (by decide +kernel) (pa_cons (pe_op op_add (pe_op op_add (pe_op op_mulM (pv 3) pe_int) (pe_op op_modN (pe_callTy call_int1X (by rfl) T.n_int (by decide +kernel) (pa_cons (pv 4) pa_nil)) pe_int)) (pe_op op_mulM pe_int (pv 1))) pa_nil)) pe_int))))
  (pss_cons (ps_set (i := 5) sc__law_bag.nd rfl (by first | exact Or.inl rfl | exact Or.inr rfl) (pe_ifExp (PW.pt (pw_or (pt_cmpR op_lt (pv 2) pe_int (nomark _)) (pw_or1 (pt_cmpR op_ge (pv 2) (pe_op op_pow pe_int pe_int) (nomark _))))) (pe_callB call_absX (by rfl) T.n_abs (by decide +kernel) (pa_cons (pv 2) pa_nil)) pe_int))
  (pss_one (ps_ret (pe_lst (pa_cons (pv 5) (pa_cons (pe_op op_modN (pe_callTy call_int1X (by rfl) T.n_int (by decide +kernel) (pa_cons (pe_op op_add (pv 3) (pe_op op_mulM pe_int (pe_op op_modN (pe_callTy call_int1X (by rfl) T.n_int (by decide +kernel) (pa_cons (pv 2) pa_nil)) pe_int))) pa_nil)) pe_int) (pa_cons pe_int pa_nil)))))))))), read__law_bag  h⟩
theorem ok_form_of (T : Txt K mg a x) : FnOk P w K mg base (L2.CX P w) 7 x.f_form_of x.d_form_of ["constant", "numbers"] (sp_form_of K a) := by
  refine T.F_form_of.okX sc_form_of (fun vs H Q E h => by first | (obtain ⟨_, rfl, _⟩ := h; rfl) | (obtain ⟨_, _, rfl, _⟩ := h; rfl) | (obtain ⟨_, _, _, rfl, _⟩ := h; rfl) | (obtain ⟨_, _, _, _, rfl, _⟩ := h; rfl) | (obtain ⟨_, _, _, _, _, rfl, _⟩ := h; rfl) | (obtain ⟨_, _, _, _, _, _, rfl, _⟩ := h; rfl) | (obtain ⟨_, _, _, _, _, _, _, rfl, _⟩ := h; rfl)) (fun cdv A outer s H vs Q E hr h => ?_)
  have pE : Passes (L2.CX P w) (cxOf (L2.CX P w) P w K mg base nm_form_of "form_of" (defScope st_form_of) x.f_form_of cdv A outer s H E) E := passes_call (takes_of rfl rfl rfl rfl) fun _ _ _ _ h => h
  have pO : PassesOwn (model P w) (cxOf (L2.CX P w) P w K mg base nm_form_of "form_of" (defScope st_form_of) x.f_form_of cdv A outer s H E).A (cxOf (L2.CX P w) P w K mg base nm_form_of "form_of" (defScope st_form_of) x.f_form_of cdv A outer s H E).env (cxOf (L2.CX P w) P w K mg base nm_form_of "form_of" (defScope st_form_of) x.f_form_of cdv A outer s H E).xe := passes_of rfl
  exact ⟨rd_form_of K a E, ((pss_cons (ps_set (i := 2) sc_form_of.nd rfl (by first | exact Or.inl rfl | exact Or.inr rfl) (pe_callB cr_sortedS (by rfl) T.n_sorted (by decide +kernel) (pa_cons (pe_lock (pe_lc (own := [("name", 3)]) rfl sc_form_of.nd (pi_keys (pv 1)) (blkOk_by (own := [("name", 3)]) (N := nm_form_of) (sc := defScope st_form_of) (by decide +kernel)) (fun _ _ _ _ _ => (pg_name (i := 3) sc_form_of.nd rfl (by first | exact Or.inl rfl | exact Or.inr rfl))) (fun _ _ _ _ _ => pts_nil) (fun _ _ _ _ _ => (pe_callTy call_strSX (by rfl) T.n_str (by decide +kernel) (pa_cons (pv 3) pa_nil))))) pa_nil)))
  (pss_one (ps_ret (pe_make T.mk_Form (ok_Form___init__ T) (hr.mono (by decide)) rfl T.g_Form T.b_Form___init__ .nil pE (pa_cons (pv 0) (pa_cons (pe_callTy call_tupX (by rfl) T.n_tuple (by decide +kernel) (pa_cons (pe_lc (own := [("name", 3)]) rfl sc_form_of.nd (pi_list (pv 2)) (blkOk_by (own := [("name", 3)]) (N := nm_form_of) (sc := defScope st_form_of) (by decide +kernel)) (fun _ _ _ _ _ => (pg_name (i := 3) sc_form_of.nd rfl (by first | exact Or.inl rfl | exact Or.inr rfl))) (fun _ _ _ _ _ => pts_one (pt_cmpR op_ne (pe_dget hr.units1 (pv 1) (pv 3) (fun _ _ => rfl)) pe_int (nomark _))) (fun _ _ _ _ _ => (pe_tup (pa_cons (pv 3) (pa_cons (pe_dget hr.units1 (pv 1) (pv 3) (fun _ _ => rfl)) pa_nil))))) pa_nil)) pa_nil))))))), read_form_of T.kf h⟩
theorem ok_Form___mul__ (T : Txt K mg a x) : FnOk P w K mg base (L2.CX P w) 9 x.f_Form___mul__ x.d_Form___mul__ ["self", "other"] (sp_Form___mul__ K a) := by
  refine T.F_Form___mul__.okX sc_Form___mul__ (fun vs H Q E h => by first | (obtain ⟨_, rfl, _⟩ := h; rfl) | (obtain ⟨_, _, rfl, _⟩ := h; rfl) | (obtain ⟨_, _, _, rfl, _⟩ := h; rfl) | (obtain ⟨_, _, _, _, rfl, _⟩ := h; rfl) | (obtain ⟨_, _, _, _, _, rfl, _⟩ := h; rfl) | (obtain ⟨_, _, _, _, _, _, rfl, _⟩ := h; rfl) | (obtain ⟨_, _, _, _, _, _, _, rfl, _⟩ := h; rfl)) (fun cdv A outer s H vs Q E hr h => ?_)
  have pE : Passes (L2.CX P w) (cxOf (L2.CX P w) P w K mg base nm_Form___mul__ "Form.__mul__" (defScope st_Form___mul__) x.f_Form___mul__ cdv A outer s H E) E := passes_call (takes_of rfl rfl rfl rfl) fun _ _ _ _ h => h
  have pO : PassesOwn (model P w) (cxOf (L2.CX P w) P w K mg base nm_Form___mul__ "Form.__mul__" (defScope st_Form___mul__) x.f_Form___mul__ cdv A outer s H E).A (cxOf (L2.CX P w) P w K mg base nm_Form___mul__ "Form.__mul__" (defScope st_Form___mul__) x.f_Form___mul__ cdv A outer s H E).env (cxOf (L2.CX P w) P w K mg base nm_Form___mul__ "Form.__mul__" (defScope st_Form___mul__) x.f_Form___mul__ cdv A outer s H E).xe := passes_of rfl
  exact ⟨rd_Form___mul__ K a E, ((pss_cons (ps_if (pt_not (pt_val (pe_call (ok_is_integer T) (hr.mono (by decide)) rfl T.g_is_integer T.kp_is_integer T.b_is_integer .nil pE (pa_cons (pv 1) pa_nil)))) (pss_one ps_never) pss_nil)
  (pss_one (ps_ret (pe_call (ok_form_of T) (hr.mono (by decide)) rfl T.g_form_of T.kp_form_of T.b_form_of .nil pE (pa_cons (pe_op op_mulM (pe_fldC T.cl_Form T.na_Form_constant (pv 0)) (pv 1)) (pa_cons (pe_dc (own := [("name", 2), ("times", 3)]) rfl sc_Form___mul__.nd (pi_tup (pe_fldC T.cl_Form T.na_Form_terms (pv 0))) (blkOk_by (own := [("name", 2), ("times", 3)]) (N := nm_Form___mul__) (sc := defScope st_Form___mul__) (by decide +kernel)) (fun _ _ _ _ _ => (pg_tup rfl (pgs_cons (pg_name (i := 2) sc_Form___mul__.nd rfl (by first | exact Or.inl rfl | exact Or.inr rfl)) (pgs_cons (pg_name (i := 3) sc_Form___mul__.nd rfl (by first | exact Or.inl rfl | exact Or.inr rfl)) pgs_nil)))) (fun _ _ _ _ _ => pts_nil) (fun _ _ _ _ _ => (pv 2)) (fun _ _ _ _ _ => (pe_op op_mulM (pv 3) (pv 1)))) pa_nil))))))), read_Form___mul__ T.kf h⟩
theorem ok_Form___neg__ (T : Txt K mg a x) : FnOk P w K mg base (L2.CX P w) 11 x.f_Form___neg__ x.d_Form___neg__ ["self"] (sp_Form___neg__ K a) := by
  refine T.F_Form___neg__.okX sc_Form___neg__ (fun vs H Q E h => by first | (obtain ⟨_, rfl, _⟩ := h; rfl) | (obtain ⟨_, _, rfl, _⟩ := h; rfl) | (obtain ⟨_, _, _, rfl, _⟩ := h; rfl) | (obtain ⟨_, _, _, _, rfl, _⟩ := h; rfl) | (obtain ⟨_, _, _, _, _, rfl, _⟩ := h; rfl) | (obtain ⟨_, _, _, _, _, _, rfl, _⟩ := h; rfl) | (obtain ⟨_, _, _, _, _, _, _, rfl, _⟩ := h; rfl)) (fun cdv A outer s H vs Q E hr h => ?_)
  have pE : Passes (L2.CX P w) (cxOf (L2.CX P w) P w K mg base nm_Form___neg__ "Form.__neg__" (defScope st_Form___neg__) x.f_Form___neg__ cdv A outer s H E) E := passes_call (takes_of rfl rfl rfl rfl) fun _ _ _ _ h => h
  have pO : PassesOwn (model P w) (cxOf (L2.CX P w) P w K mg base nm_Form___neg__ "Form.__neg__" (defScope st_Form___neg__) x.f_Form___neg__ cdv A outer s H E).A (cxOf (L2.CX P w) P w K mg base nm_Form___neg__ "Form.__neg__" (defScope st_Form___neg__) x.f_Form___neg__ cdv A outer s H E).env (cxOf (L2.CX P w) P w K mg base nm_Form___neg__ "Form.__neg__" (defScope st_Form___neg__) x.f_Form___neg__ cdv A outer s H E).xe := passes_of rfl
  exact ⟨rd_Form___neg__ K a E, ((pss_one (ps_ret (pe_op (op_ownI T.sf_Form T.o_Form_mul (ok_Form___mul__ T) (hr.mono (by decide)) T.b_Form___mul__ pE T.nr_Form_mul (.inl rfl) T.i1_Form_mul T.i2_Form_mul T.int_Form) (pv 0) (pe_un un_neg pe_int))))), read_Form___neg__  h⟩
theorem ok__law_draw (T : Txt K mg a x) : FnOk P w K mg base (L2.CX P w) 1 x.f__law_draw x.d__law_draw ["_law_bag_here", "_law_wide"] (sp__law_draw K a) := by
  refine T.F__law_draw.okX sc__law_draw (fun vs H Q E h => by first | (obtain ⟨_, rfl, _⟩ := h; rfl) | (obtain ⟨_, _, rfl, _⟩ := h; rfl) | (obtain ⟨_, _, _, rfl, _⟩ := h; rfl) | (obtain ⟨_, _, _, _, rfl, _⟩ := h; rfl) | (obtain ⟨_, _, _, _, _, rfl, _⟩ := h; rfl) | (obtain ⟨_, _, _, _, _, _, rfl, _⟩ := h; rfl) | (obtain ⟨_, _, _, _, _, _, _, rfl, _⟩ := h; rfl)) (fun cdv A outer s H vs Q E hr h => ?_)
  have pE : Passes (L2.CX P w) (cxOf (L2.CX P w) P w K mg base nm__law_draw "_law_draw" (defScope st__law_draw) x.f__law_draw cdv A outer s H E) E := passes_call (takes_of rfl rfl rfl rfl) fun _ _ _ _ h => h
  have pO : PassesOwn (model P w) (cxOf (L2.CX P w) P w K mg base nm__law_draw "_law_draw" (defScope st__law_draw) x.f__law_draw cdv A outer s H E).A (cxOf (L2.CX P w) P w K mg base nm__law_draw "_law_draw" (defScope st__law_draw) x.f__law_draw cdv A outer s H E).env (cxOf (L2.CX P w) P w K mg base nm__law_draw "_law_draw" (defScope st__law_draw) x.f__law_draw cdv A outer s H E).xe := passes_of rfl
  exact ⟨rd__law_draw K a E, ((pss_cons (ps_asg (pe_op op_add (pe_ix ix_list (pv 0) pe_int (fun _ _ => rfl)) pe_int) (pg_sub (pv 0) pe_int set_list))
  (pss_cons (ps_if (pt_cmpR op_gt (pe_ix ix_list (pv 0) pe_int (fun _ _ => rfl)) pe_int (nomark _)) (pss_cons (ps_set (i := 2) sc__law_draw.nd rfl (by first | exact Or.inl rfl | exact Or.inr rfl) (pe_op op_modN (pe_callTy call_int1X (by rfl) T.n_int (by decide +kernel) (pa_cons (pe_ix ix_list (pv 0) pe_int (fun _ _ => rfl)) pa_nil)) (pv 1)))
  (pss_cons (ps_asg (pe_op op_fdivX (pe_ix ix_list (pv 0) pe_int (fun _ _ => rfl)) (pv 1)) (pg_sub (pv 0) pe_int set_list))
  (pss_one (ps_ret (pv 2))))) pss_nil)
  (pss_cons (ps_set (i := 3) sc__law_draw.nd rfl (by first | exact Or.inl rfl | exact Or.inr rfl) (pe_op op_add (pe_callTy call_int1X (by rfl) T.n_int (by decide +kernel) (pa_cons (pe_ix ix_list (pv 0) pe_int (fun _ _ => rfl)) pa_nil)) (pe_op op_mulM pe_int (pe_ix ix_list (pv 0) pe_int (fun _ _ => rfl)))))
  (pss_cons (ps_set (i := 4) sc__law_draw.nd rfl (by first | exact Or.inl rfl | exact Or.inr rfl) (pe_op op_add (pe_op op_modN (pe_callTy call_int1X (by rfl) T.n_int (by decide +kernel) (pa_cons (pv 3) pa_nil)) pe_int) pe_int))
  (pss_cons (ps_asg (pe_op op_modN (pe_callTy call_int1X (by rfl) T.n_int (by decide +kernel) (pa_cons (pe_op op_add (pe_op op_add (pe_op op_mulM (pv 3) (pv 4)) (pe_op op_mulM pe_int (pe_ix ix_list (pv 0) pe_int (fun _ _ => rfl)))) pe_int) pa_nil)) pe_int) (pg_sub (pv 0) pe_int set_list))
  (pss_one (ps_ret (pe_op op_modN (pe_op op_fdivX (pe_callTy call_int1X (by rfl) T.n_int (by decide +kernel) (pa_cons (pe_ix ix_list (pv 0) pe_int (fun _ _ => rfl)) pa_nil)) pe_int) (pv 1)))))))))), read__law_draw  h⟩
theorem ok__law_one (T : Txt K mg a x) : FnOk P w K mg base (L2.CX P w) 3 x.f__law_one x.d__law_one ["_law_bag_here", "_law_some"] (sp__law_one K a) := by
  refine T.F__law_one.okX sc__law_one (fun vs H Q E h => by first | (obtain ⟨_, rfl, _⟩ := h; rfl) | (obtain ⟨_, _, rfl, _⟩ := h; rfl) | (obtain ⟨_, _, _, rfl, _⟩ := h; rfl) | (obtain ⟨_, _, _, _, rfl, _⟩ := h; rfl) | (obtain ⟨_, _, _, _, _, rfl, _⟩ := h; rfl) | (obtain ⟨_, _, _, _, _, _, rfl, _⟩ := h; rfl) | (obtain ⟨_, _, _, _, _, _, _, rfl, _⟩ := h; rfl)) (fun cdv A outer s H vs Q E hr h => ?_)
  have pE : Passes (L2.CX P w) (cxOf (L2.CX P w) P w K mg base nm__law_one "_law_one" (defScope st__law_one) x.f__law_one cdv A outer s H E) E := passes_call (takes_of rfl rfl rfl rfl) fun _ _ _ _ h => h
  have pO : PassesOwn (model P w) (cxOf (L2.CX P w) P w K mg base nm__law_one "_law_one" (defScope st__law_one) x.f__law_one cdv A outer s H E).A (cxOf (L2.CX P w) P w K mg base nm__law_one "_law_one" (defScope st__law_one) x.f__law_one cdv A outer s H E).env (cxOf (L2.CX P w) P w K mg base nm__law_one "_law_one" (defScope st__law_one) x.f__law_one cdv A outer s H E).xe := passes_of rfl
  exact ⟨rd__law_one K a E, ((pss_one (ps_ret (pe_ix ix_seq (pv 1) (pe_call (ok__law_draw T) (hr.mono (by decide)) rfl T.g__law_draw T.kp__law_draw T.b__law_draw .nil pE (pa_cons (pv 0) (pa_cons (pe_callB call_lenX (by rfl) T.n_len (by decide +kernel) (pa_cons (pv 1) pa_nil)) pa_nil))) (fun _ _ => rfl))))), read__law_one  h⟩
theorem ok__law_piece (T : Txt K mg a x) : FnOk P w K mg base (L2.CX P w) 1 x.f__law_piece x.d__law_piece ["_law_size_here", "_law_called"] (sp__law_piece K a) := by
  refine T.F__law_piece.okX sc__law_piece (fun vs H Q E h => by first | (obtain ⟨_, rfl, _⟩ := h; rfl) | (obtain ⟨_, _, rfl, _⟩ := h; rfl) | (obtain ⟨_, _, _, rfl, _⟩ := h; rfl) | (obtain ⟨_, _, _, _, rfl, _⟩ := h; rfl) | (obtain ⟨_, _, _, _, _, rfl, _⟩ := h; rfl) | (obtain ⟨_, _, _, _, _, _, rfl, _⟩ := h; rfl) | (obtain ⟨_, _, _, _, _, _, _, rfl, _⟩ := h; rfl)) (fun cdv A outer s H vs Q E hr h => ?_)
  have pE : Passes (L2.CX P w) (cxOf (L2.CX P w) P w K mg base nm__law_piece "_law_piece" (defScope st__law_piece) x.f__law_piece cdv A outer s H E) E := passes_call (takes_of rfl rfl rfl rfl) fun _ _ _ _ h => h
  have pO : PassesOwn (model P w) (cxOf (L2.CX P w) P w K mg base nm__law_piece "_law_piece" (defScope st__law_piece) x.f__law_piece cdv A outer s H E).A (cxOf (L2.CX P w) P w K mg base nm__law_piece "_law_piece" (defScope st__law_piece) x.f__law_piece cdv A outer s H E).env (cxOf (L2.CX P w) P w K mg base nm__law_piece "_law_piece" (defScope st__law_piece) x.f__law_piece cdv A outer s H E).xe := passes_of rfl
  exact ⟨rd__law_piece K a E, ((pss_cons (ps_if (pt_cmpR op_eq (pv 1) pe_str (nomark _)) (pss_one (ps_ret (pe_callTy call_strIX (by rfl) T.n_str (by decide +kernel) (pa_cons (pe_callB call_absX (by rfl) T.n_abs (by decide +kernel) (pa_cons (pv 0) pa_nil)) pa_nil)))) pss_nil)
  (pss_one (ps_ret (pe_ifExp (pt_cmpR op_eq (pe_callB call_absX (by rfl) T.n_abs (by decide +kernel) (pa_cons (pv 0) pa_nil)) pe_int (nomark _)) (pv 1) (pe_op op_addSt (pe_op op_addSt (pe_callTy call_strIX (by rfl) T.n_str (by decide +kernel) (pa_cons (pe_callB call_absX (by rfl) T.n_abs (by decide +kernel) (pa_cons (pv 0) pa_nil)) pa_nil)) pe_str) (pv 1))))))), read__law_piece  h⟩
theorem ok__law_written (T : Txt K mg a x) : FnOk P w K mg base (L2.CX P w) 3 x.f__law_written x.d__law_written ["_law_first", "_law_pairs"] (sp__law_written K a) := by
  refine T.F__law_written.okX sc__law_written (fun vs H Q E h => by first | (obtain ⟨_, rfl, _⟩ := h; rfl) | (obtain ⟨_, _, rfl, _⟩ := h; rfl) | (obtain ⟨_, _, _, rfl, _⟩ := h; rfl) | (obtain ⟨_, _, _, _, rfl, _⟩ := h; rfl) | (obtain ⟨_, _, _, _, _, rfl, _⟩ := h; rfl) | (obtain ⟨_, _, _, _, _, _, rfl, _⟩ := h; rfl) | (obtain ⟨_, _, _, _, _, _, _, rfl, _⟩ := h; rfl)) (fun cdv A outer s H vs Q E hr h => ?_)
  have pE : Passes (L2.CX P w) (cxOf (L2.CX P w) P w K mg base nm__law_written "_law_written" (defScope st__law_written) x.f__law_written cdv A outer s H E) E := passes_call (takes_of rfl rfl rfl rfl) fun _ _ _ _ h => h
  have pO : PassesOwn (model P w) (cxOf (L2.CX P w) P w K mg base nm__law_written "_law_written" (defScope st__law_written) x.f__law_written cdv A outer s H E).A (cxOf (L2.CX P w) P w K mg base nm__law_written "_law_written" (defScope st__law_written) x.f__law_written cdv A outer s H E).env (cxOf (L2.CX P w) P w K mg base nm__law_written "_law_written" (defScope st__law_written) x.f__law_written cdv A outer s H E).xe := passes_of rfl
  exact ⟨rd__law_written K a E, ((pss_cons (ps_set (i := 2) sc__law_written.nd rfl (by first | exact Or.inl rfl | exact Or.inr rfl) (pe_ifExp (PW.pt (pw_or (pt_cmpR op_ne (pv 0) pe_int (nomark _)) (pw_or1 (pt_cmpR (op_eqD hr.units) (pv 1) (pe_tup pa_nil) (nomark _))))) (pe_lst (pa_cons (pe_tup (pa_cons (pv 0) (pa_cons pe_str pa_nil))) pa_nil)) (pe_lst pa_nil)))
  (pss_cons (ps_set (i := 2) sc__law_written.nd rfl (by first | exact Or.inl rfl | exact Or.inr rfl) (pe_op op_cat (pv 2) (pe_lc (own := [("_law_called", 3), ("_law_size_here", 4)]) rfl sc__law_written.nd (pi_tup (pv 1)) (blkOk_by (own := [("_law_called", 3), ("_law_size_here", 4)]) (N := nm__law_written) (sc := defScope st__law_written) (by decide +kernel)) (fun _ _ _ _ _ => (pg_tup rfl (pgs_cons (pg_name (i := 3) sc__law_written.nd rfl (by first | exact Or.inl rfl | exact Or.inr rfl)) (pgs_cons (pg_name (i := 4) sc__law_written.nd rfl (by first | exact Or.inl rfl | exact Or.inr rfl)) pgs_nil)))) (fun _ _ _ _ _ => pts_nil) (fun _ _ _ _ _ => (pe_tup (pa_cons (pv 4) (pa_cons (pv 3) pa_nil)))))))
  (pss_cons (ps_set (i := 5) sc__law_written.nd rfl (by first | exact Or.inl rfl | exact Or.inr rfl) (pe_op op_addSt (pe_ifExp (pt_cmpR op_lt (pe_ix ix_tup (pe_ix ix_list (pv 2) pe_int (fun _ _ => rfl)) pe_int (fun _ _ => rfl)) pe_int (nomark _)) pe_str pe_str) (pe_call (ok__law_piece T) (hr.mono (by decide)) rfl T.g__law_piece T.kp__law_piece T.b__law_piece .nil pE (pa_cons (pe_ix ix_tup (pe_ix ix_list (pv 2) pe_int (fun _ _ => rfl)) pe_int (fun _ _ => rfl)) (pa_cons (pe_ix ix_tup (pe_ix ix_list (pv 2) pe_int (fun _ _ => rfl)) pe_int (fun _ _ => rfl)) pa_nil)))))
  (pss_cons (ps_for pO rfl (pi_list (pe_slice sl_list (pv 2) (po_some pe_int) po_none)) (pg_tup rfl (pgs_cons (pg_name (i := 4) sc__law_written.nd rfl (by first | exact Or.inl rfl | exact Or.inr rfl)) (pgs_cons (pg_name (i := 3) sc__law_written.nd rfl (by first | exact Or.inl rfl | exact Or.inr rfl)) pgs_nil))) (pss_one (ps_set (i := 5) sc__law_written.nd rfl (by first | exact Or.inl rfl | exact Or.inr rfl) (pe_op op_addSt (pe_op op_addSt (pv 5) (pe_ifExp (pt_cmpR op_lt (pv 4) pe_int (nomark _)) pe_str pe_str)) (pe_call (ok__law_piece T) (hr.mono (by decide)) rfl T.g__law_piece T.kp__law_piece T.b__law_piece .nil pE (pa_cons (pv 4) (pa_cons (pv 3) pa_nil)))))))
  (pss_one (ps_ret (pv 5)))))))), read__law_written  h⟩
theorem ok__law_right (T : Txt K mg a x) : FnOk P w K mg base (L2.CX P w) 13 x.f__law_right x.d__law_right ["_law_bag_here"] (sp__law_right K a) := by
  refine T.F__law_right.okX sc__law_right (fun vs H Q E h => by first | (obtain ⟨_, rfl, _⟩ := h; rfl) | (obtain ⟨_, _, rfl, _⟩ := h; rfl) | (obtain ⟨_, _, _, rfl, _⟩ := h; rfl) | (obtain ⟨_, _, _, _, rfl, _⟩ := h; rfl) | (obtain ⟨_, _, _, _, _, rfl, _⟩ := h; rfl) | (obtain ⟨_, _, _, _, _, _, rfl, _⟩ := h; rfl) | (obtain ⟨_, _, _, _, _, _, _, rfl, _⟩ := h; rfl)) (fun cdv A outer s H vs Q E hr h => ?_)
  have pE : Passes (L2.CX P w) (cxOf (L2.CX P w) P w K mg base nm__law_right "_law_right" (defScope st__law_right) x.f__law_right cdv A outer s H E) E := passes_call (takes_of rfl rfl rfl rfl) fun _ _ _ _ h => h
  have pO : PassesOwn (model P w) (cxOf (L2.CX P w) P w K mg base nm__law_right "_law_right" (defScope st__law_right) x.f__law_right cdv A outer s H E).A (cxOf (L2.CX P w) P w K mg base nm__law_right "_law_right" (defScope st__law_right) x.f__law_right cdv A outer s H E).env (cxOf (L2.CX P w) P w K mg base nm__law_right "_law_right" (defScope st__law_right) x.f__law_right cdv A outer s H E).xe := passes_of rfl
  exact ⟨rd__law_right K a E, ((pss_cons (ps_for pO rfl (pi_range1 (by rfl) T.n_range (pa_cons pe_int pa_nil)) (pg_name (i := 1) sc__law_right.nd rfl (by first | exact Or.inl rfl | exact Or.inr rfl)) (pss_cons (ps_set (i := 2) sc__law_right.nd rfl (by first | exact Or.inl rfl | exact Or.inr rfl) (pe_call (ok__law_one T) (hr.mono (by decide)) rfl T.g__law_one T.kp__law_one T.b__law_one .nil pE (pa_cons (pv 0) (pa_cons (pe_lst (pa_cons pe_int (pa_cons pe_int (pa_cons pe_int (pa_cons (pe_op op_sub pe_int pe_int) (pa_cons pe_int (pa_cons (pe_op op_sub pe_int (pe_call (ok__law_draw T) (hr.mono (by decide)) rfl T.g__law_draw T.kp__law_draw T.b__law_draw .nil pE (pa_cons (pv 0) (pa_cons (pe_op op_pow pe_int pe_int) pa_nil)))) pa_nil))))))) pa_nil))))
  (pss_cons (ps_set (i := 3) sc__law_right.nd rfl (by first | exact Or.inl rfl | exact Or.inr rfl) (pe_lst pa_nil))
  (pss_cons (ps_for pO rfl (pi_str pe_str) (pg_name (i := 4) sc__law_right.nd rfl (by first | exact Or.inl rfl | exact Or.inr rfl)) (pss_one (ps_if (pt_cmpR op_eq (pe_call (ok__law_draw T) (hr.mono (by decide)) rfl T.g__law_draw T.kp__law_draw T.b__law_draw .nil pE (pa_cons (pv 0) (pa_cons pe_int pa_nil))) pe_int (nomark _)) (pss_one (ps_expr (pe_bm PySem.F.plainAttrs_list PySem.F.slot_list_append PySem.F.type_list_append mt_append (pv 3) (pa_cons (pe_tup (pa_cons (pv 4) (pa_cons (pe_call (ok__law_one T) (hr.mono (by decide)) rfl T.g__law_one T.kp__law_one T.b__law_one .nil pE (pa_cons (pv 0) (pa_cons (pe_lst (pa_cons pe_int (pa_cons (pe_op op_sub pe_int pe_int) (pa_cons pe_int (pa_cons (pe_op op_sub pe_int pe_int) (pa_cons (pe_op op_add pe_int (pe_call (ok__law_draw T) (hr.mono (by decide)) rfl T.g__law_draw T.kp__law_draw T.b__law_draw .nil pE (pa_cons (pv 0) (pa_cons (pe_op op_pow pe_int pe_int) pa_nil)))) pa_nil)))))) pa_nil))) pa_nil))) pa_nil)))) pss_nil)))
  (pss_cons (ps_par (i := 5) (j := 6) rfl sc__law_right.nd rfl rfl (by decide) rfl rfl (pa_cons (pe_make T.mk_Form (ok_Form___init__ T) (hr.mono (by decide)) rfl T.g_Form T.b_Form___init__ .nil pE (pa_cons (pv 2) (pa_cons (pe_callTy call_tupX (by rfl) T.n_tuple (by decide +kernel) (pa_cons (pv 3) pa_nil)) pa_nil))) (pa_cons (pe_call (ok__law_written T) (hr.mono (by decide)) rfl T.g__law_written T.kp__law_written T.b__law_written .nil pE (pa_cons (pv 2) (pa_cons (pe_callTy call_tupX (by rfl) T.n_tuple (by decide +kernel) (pa_cons (pv 3) pa_nil)) pa_nil))) pa_nil)) (by rfl))
  (pss_one (ps_if (PW.pt (pw_or (pt_cmpR (op_neD hr.units) (pe_lst (pa_cons (pe_callTy (call_strOwn T.o_Form_str (ok_Form___str__ T) (hr.mono (by decide)) T.b_Form___str__ pE) (by rfl) T.n_str (by decide +kernel) (pa_cons (pv 5) pa_nil)) (pa_cons (pe_callTy (call_strOwn T.o_Form_str (ok_Form___str__ T) (hr.mono (by decide)) T.b_Form___str__ pE) (by rfl) T.n_str (by decide +kernel) (pa_cons (pv 5) pa_nil)) pa_nil))) (pe_lst (pa_cons (pv 6) (pa_cons (pv 6) pa_nil))) (nomark _)) (pw_or1 (pt_cmpR op_ne (pe_callTy (call_strOwn T.o_Form_str (ok_Form___str__ T) (hr.mono (by decide)) T.b_Form___str__ pE) (by rfl) T.n_str (by decide +kernel) (pa_cons (pe_un (un_own T.o_Form_neg (ok_Form___neg__ T) (hr.mono (by decide)) T.b_Form___neg__ pE) (pe_un (un_own T.o_Form_neg (ok_Form___neg__ T) (hr.mono (by decide)) T.b_Form___neg__ pE) (pv 5))) pa_nil)) (pv 6) (nomark _))))) (pss_one (ps_ret pe_bl)) pss_nil)))))))
  (pss_one (ps_ret pe_bl)))), read__law_right  h⟩
theorem ok_law (T : Txt K mg a x) : FnOk P w K mg base (L2.CX P w) 15 x.f_law x.d_law ["_law_cells"] (sp_law K a) := by
  refine T.F_law.okX sc_law (fun vs H Q E h => by first | (obtain ⟨_, rfl, _⟩ := h; rfl) | (obtain ⟨_, _, rfl, _⟩ := h; rfl) | (obtain ⟨_, _, _, rfl, _⟩ := h; rfl) | (obtain ⟨_, _, _, _, rfl, _⟩ := h; rfl) | (obtain ⟨_, _, _, _, _, rfl, _⟩ := h; rfl) | (obtain ⟨_, _, _, _, _, _, rfl, _⟩ := h; rfl) | (obtain ⟨_, _, _, _, _, _, _, rfl, _⟩ := h; rfl)) (fun cdv A outer s H vs Q E hr h => ?_)
  have pE : Passes (L2.CX P w) (cxOf (L2.CX P w) P w K mg base nm_law "law" (defScope st_law) x.f_law cdv A outer s H E) E := passes_call (takes_of rfl rfl rfl rfl) fun _ _ _ _ h => h
  have pO : PassesOwn (model P w) (cxOf (L2.CX P w) P w K mg base nm_law "law" (defScope st_law) x.f_law cdv A outer s H E).A (cxOf (L2.CX P w) P w K mg base nm_law "law" (defScope st_law) x.f_law cdv A outer s H E).env (cxOf (L2.CX P w) P w K mg base nm_law "law" (defScope st_law) x.f_law cdv A outer s H E).xe := passes_of rfl
  exact ⟨rd_law K a E, ((pss_cons (ps_set (i := 1) sc_law.nd rfl (by first | exact Or.inl rfl | exact Or.inr rfl) (pe_lst (pa_cons (pe_make0 T.mk_Form (ok_Form___init__ T) (hr.mono (by decide)) rfl T.g_Form (T.bd_Form___init___2).choose_spec.2 (T.bd_Form___init___2).choose_spec.1 pE) (pa_cons (pe_make T.mk_Form (ok_Form___init__ T) (hr.mono (by decide)) rfl T.g_Form T.b_Form___init__ .nil pE (pa_cons pe_int (pa_cons (pe_tup (pa_cons (pe_tup (pa_cons pe_str (pa_cons (pe_op op_sub pe_int pe_int) pa_nil))) pa_nil)) pa_nil))) (pa_cons (pe_make T.mk_Form (ok_Form___init__ T) (hr.mono (by decide)) rfl T.g_Form T.b_Form___init__ .nil pE (pa_cons pe_int (pa_cons (pe_tup (pa_cons (pe_tup (pa_cons pe_str (pa_cons (pe_op op_sub pe_int pe_int) pa_nil))) (pa_cons (pe_tup (pa_cons pe_str (pa_cons pe_int pa_nil))) pa_nil))) pa_nil))) (pa_cons (pe_make T.mk_Form (ok_Form___init__ T) (hr.mono (by decide)) rfl T.g_Form T.b_Form___init__ .nil pE (pa_cons (pe_op op_sub pe_int pe_int) (pa_cons (pe_tup (pa_cons (pe_tup (pa_cons pe_str (pa_cons (pe_op op_sub pe_int pe_int) pa_nil))) pa_nil)) pa_nil))) (pa_cons (pe_make T.mk_Form (ok_Form___init__ T) (hr.mono (by decide)) rfl T.g_Form (T.bd_Form___init___1).choose_spec.2 (T.bd_Form___init___1).choose_spec.1 pE (pa_cons pe_int pa_nil)) pa_nil)))))))
  (pss_cons (ps_if (pt_cmpR (op_neD hr.units) (pe_lc (own := [("_law_each", 2)]) rfl sc_law.nd (pi_list (pv 1)) (blkOk_by (own := [("_law_each", 2)]) (N := nm_law) (sc := defScope st_law) (by decide +kernel)) (fun _ _ _ _ _ => (pg_name (i := 2) sc_law.nd rfl (by first | exact Or.inl rfl | exact Or.inr rfl))) (fun _ _ _ _ _ => pts_nil) (fun _ _ _ _ _ => (pe_callTy (call_strOwn T.o_Form_str (ok_Form___str__ T) (hr.mono (by decide)) T.b_Form___str__ passL) (by rfl) T.n_str (by decide +kernel) (pa_cons (pv 2) pa_nil)))) (pe_lst (pa_cons pe_str (pa_cons pe_str (pa_cons pe_str (pa_cons pe_str (pa_cons pe_str pa_nil)))))) (nomark _)) (pss_one (ps_ret pe_bl)) pss_nil)
  (pss_one (ps_ret (pe_callB (cr_all rfl) (by rfl) T.n_all (by decide +kernel) (pa_cons (pe_lc (own := [("_law_k", 3)]) rfl sc_law.nd (pi_range1 (by rfl) T.n_range (pa_cons (pe_callB (call_max2X rfl) (by rfl) T.n_max (by decide +kernel) (pa_cons pe_int (pa_cons (pe_callB (call_min2X rfl) (by rfl) T.n_min (by decide +kernel) (pa_cons (pe_callB call_lenX (by rfl) T.n_len (by decide +kernel) (pa_cons (pv 0) pa_nil)) (pa_cons pe_int pa_nil))) pa_nil))) pa_nil)) (blkOk_by (own := [("_law_k", 3)]) (N := nm_law) (sc := defScope st_law) (by decide +kernel)) (fun _ _ _ _ _ => (pg_name (i := 3) sc_law.nd rfl (by first | exact Or.inl rfl | exact Or.inr rfl))) (fun _ _ _ _ _ => pts_nil) (fun _ _ _ _ _ => (pe_call (ok__law_right T) (hr.mono (by decide)) rfl T.g__law_right T.kp__law_right T.b__law_right .nil passL (pa_cons (pe_call (ok__law_bag T) (hr.mono (by decide)) rfl T.g__law_bag T.kp__law_bag T.b__law_bag .nil passL (pa_cons (pv 0) (pa_cons (pv 3) pa_nil))) pa_nil)))) pa_nil))))))), read_law T.emp h⟩
end
/-! ### what the top has written, gathered -/
theorem all_mk {l : PySem.W.OpenLaw} {w : World} {K : PySem.W.Frag} {h : Heap} {mg : Str → Option Value} {fa : Addr} (X : K.In h) (G : h.Ns mainGlobals mg) (hfa : mg "law" = some (.ref fa))
    {C_Form : Addr}
    {f_are_small : Addr} {od_are_small an_are_small : Option Addr} {sl_are_small : Array (Option Value)} {oc_are_small kV_are_small dc_are_small pm_are_small cd_are_small ct_are_small : Value}
    {f_is_integer : Addr} {od_is_integer an_is_integer : Option Addr} {sl_is_integer : Array (Option Value)} {oc_is_integer kV_is_integer dc_is_integer pm_is_integer cd_is_integer ct_is_integer : Value}
    {f_are_terms : Addr} {od_are_terms an_are_terms : Option Addr} {sl_are_terms : Array (Option Value)} {oc_are_terms kV_are_terms dc_are_terms pm_are_terms cd_are_terms ct_are_terms : Value}
    {f_Form___init__ : Addr} {od_Form___init__ an_Form___init__ : Option Addr} {sl_Form___init__ : Array (Option Value)} {oc_Form___init__ kV_Form___init__ dc_Form___init__ pm_Form___init__ cd_Form___init__ ct_Form___init__ : Value}
    {dt_Form___init__ : Addr} {to_Form___init__ : Value} {td_Form___init__ : Option Addr} {tn_Form___init__ : Nat} {ts_Form___init__ : Array (Option Value)} {tv_Form___init__ : Array Value}
    {f_piece_text : Addr} {od_piece_text an_piece_text : Option Addr} {sl_piece_text : Array (Option Value)} {oc_piece_text kV_piece_text dc_piece_text pm_piece_text cd_piece_text ct_piece_text : Value}
    {f_text_of : Addr} {od_text_of an_text_of : Option Addr} {sl_text_of : Array (Option Value)} {oc_text_of kV_text_of dc_text_of pm_text_of cd_text_of ct_text_of : Value}
    {f_Form___str__ : Addr} {od_Form___str__ an_Form___str__ : Option Addr} {sl_Form___str__ : Array (Option Value)} {oc_Form___str__ kV_Form___str__ dc_Form___str__ pm_Form___str__ cd_Form___str__ ct_Form___str__ : Value}
    {f__law_bag : Addr} {od__law_bag an__law_bag : Option Addr} {sl__law_bag : Array (Option Value)} {oc__law_bag kV__law_bag dc__law_bag pm__law_bag cd__law_bag ct__law_bag : Value}
    {f_form_of : Addr} {od_form_of an_form_of : Option Addr} {sl_form_of : Array (Option Value)} {oc_form_of kV_form_of dc_form_of pm_form_of cd_form_of ct_form_of : Value}
    {f_Form___mul__ : Addr} {od_Form___mul__ an_Form___mul__ : Option Addr} {sl_Form___mul__ : Array (Option Value)} {oc_Form___mul__ kV_Form___mul__ dc_Form___mul__ pm_Form___mul__ cd_Form___mul__ ct_Form___mul__ : Value}
    {f_Form___neg__ : Addr} {od_Form___neg__ an_Form___neg__ : Option Addr} {sl_Form___neg__ : Array (Option Value)} {oc_Form___neg__ kV_Form___neg__ dc_Form___neg__ pm_Form___neg__ cd_Form___neg__ ct_Form___neg__ : Value}
    {f__law_draw : Addr} {od__law_draw an__law_draw : Option Addr} {sl__law_draw : Array (Option Value)} {oc__law_draw kV__law_draw dc__law_draw pm__law_draw cd__law_draw ct__law_draw : Value}
    {f__law_one : Addr} {od__law_one an__law_one : Option Addr} {sl__law_one : Array (Option Value)} {oc__law_one kV__law_one dc__law_one pm__law_one cd__law_one ct__law_one : Value}
    {f__law_piece : Addr} {od__law_piece an__law_piece : Option Addr} {sl__law_piece : Array (Option Value)} {oc__law_piece kV__law_piece dc__law_piece pm__law_piece cd__law_piece ct__law_piece : Value}
    {f__law_written : Addr} {od__law_written an__law_written : Option Addr} {sl__law_written : Array (Option Value)} {oc__law_written kV__law_written dc__law_written pm__law_written cd__law_written ct__law_written : Value}
    {f__law_right : Addr} {od__law_right an__law_right : Option Addr} {sl__law_right : Array (Option Value)} {oc__law_right kV__law_right dc__law_right pm__law_right cd__law_right ct__law_right : Value}
    {f_law : Addr} {od_law an_law : Option Addr} {sl_law : Array (Option Value)} {oc_law kV_law dc_law pm_law cd_law ct_law : Value}
    {e_emp : Addr} {eo_emp : Obj} {en_emp : Nat}
    {fo_Form_mul ro_Form_mul : Option Value}
    (aC_Form : PySem.W.nsIn K mainGlobals "Form" = some (some (.ref C_Form)))
    (a_are_small : PySem.W.nsIn K mainGlobals "are_small" = some (some (.ref f_are_small)))
    (l_are_small : K.lookup f_are_small = some ⟨oc_are_small, od_are_small, .func (PySem.W.fnOf "are_small" "are_small" (defArgs st_are_small) (defBody st_are_small) (defScope st_are_small) .none kV_are_small dc_are_small pm_are_small an_are_small cd_are_small ct_are_small), sl_are_small⟩)
    (c_are_small : PySem.W.codeIn K cd_are_small "are_small" = true)
    (k_are_small : PySem.W.keepIn K (.ref f_are_small) = true)
    (a_is_integer : PySem.W.nsIn K mainGlobals "is_integer" = some (some (.ref f_is_integer)))
    (l_is_integer : K.lookup f_is_integer = some ⟨oc_is_integer, od_is_integer, .func (PySem.W.fnOf "is_integer" "is_integer" (defArgs st_is_integer) (defBody st_is_integer) (defScope st_is_integer) .none kV_is_integer dc_is_integer pm_is_integer an_is_integer cd_is_integer ct_is_integer), sl_is_integer⟩)
    (c_is_integer : PySem.W.codeIn K cd_is_integer "is_integer" = true)
    (k_is_integer : PySem.W.keepIn K (.ref f_is_integer) = true)
    (a_are_terms : PySem.W.nsIn K mainGlobals "are_terms" = some (some (.ref f_are_terms)))
    (l_are_terms : K.lookup f_are_terms = some ⟨oc_are_terms, od_are_terms, .func (PySem.W.fnOf "are_terms" "are_terms" (defArgs st_are_terms) (defBody st_are_terms) (defScope st_are_terms) .none kV_are_terms dc_are_terms pm_are_terms an_are_terms cd_are_terms ct_are_terms), sl_are_terms⟩)
    (c_are_terms : PySem.W.codeIn K cd_are_terms "are_terms" = true)
    (k_are_terms : PySem.W.keepIn K (.ref f_are_terms) = true)
    (a_Form___init__ : PySem.W.findIn K (.ref C_Form) "__init__" = some (some (.ref f_Form___init__)))
    (i_Form___init__ : PySem.W.isFn K (.ref f_Form___init__) = true)
    (l_Form___init__ : K.lookup f_Form___init__ = some ⟨oc_Form___init__, od_Form___init__, .func (PySem.W.fnOf "__init__" "Form.__init__" (defArgs st_Form___init__) (defBody st_Form___init__) (defScope st_Form___init__) (.ref dt_Form___init__) kV_Form___init__ dc_Form___init__ pm_Form___init__ an_Form___init__ cd_Form___init__ ct_Form___init__), sl_Form___init__⟩)
    (c_Form___init__ : PySem.W.codeIn K cd_Form___init__ "Form.__init__" = true)
    (k_Form___init__ : PySem.W.keepIn K (.ref f_Form___init__) = true)
    (t_Form___init__ : K.lookup dt_Form___init__ = some ⟨to_Form___init__, td_Form___init__, .seq tv_Form___init__ tn_Form___init__, ts_Form___init__⟩)
    (u_Form___init__ : Vals [.int 0, .ref e_emp] tv_Form___init__.toList)
    (a_piece_text : PySem.W.nsIn K mainGlobals "piece_text" = some (some (.ref f_piece_text)))
    (l_piece_text : K.lookup f_piece_text = some ⟨oc_piece_text, od_piece_text, .func (PySem.W.fnOf "piece_text" "piece_text" (defArgs st_piece_text) (defBody st_piece_text) (defScope st_piece_text) .none kV_piece_text dc_piece_text pm_piece_text an_piece_text cd_piece_text ct_piece_text), sl_piece_text⟩)
    (c_piece_text : PySem.W.codeIn K cd_piece_text "piece_text" = true)
    (k_piece_text : PySem.W.keepIn K (.ref f_piece_text) = true)
    (a_text_of : PySem.W.nsIn K mainGlobals "text_of" = some (some (.ref f_text_of)))
    (l_text_of : K.lookup f_text_of = some ⟨oc_text_of, od_text_of, .func (PySem.W.fnOf "text_of" "text_of" (defArgs st_text_of) (defBody st_text_of) (defScope st_text_of) .none kV_text_of dc_text_of pm_text_of an_text_of cd_text_of ct_text_of), sl_text_of⟩)
    (c_text_of : PySem.W.codeIn K cd_text_of "text_of" = true)
    (k_text_of : PySem.W.keepIn K (.ref f_text_of) = true)
    (a_Form___str__ : PySem.W.findIn K (.ref C_Form) "__str__" = some (some (.ref f_Form___str__)))
    (i_Form___str__ : PySem.W.isFn K (.ref f_Form___str__) = true)
    (l_Form___str__ : K.lookup f_Form___str__ = some ⟨oc_Form___str__, od_Form___str__, .func (PySem.W.fnOf "__str__" "Form.__str__" (defArgs st_Form___str__) (defBody st_Form___str__) (defScope st_Form___str__) .none kV_Form___str__ dc_Form___str__ pm_Form___str__ an_Form___str__ cd_Form___str__ ct_Form___str__), sl_Form___str__⟩)
    (c_Form___str__ : PySem.W.codeIn K cd_Form___str__ "Form.__str__" = true)
    (k_Form___str__ : PySem.W.keepIn K (.ref f_Form___str__) = true)
    (a__law_bag : PySem.W.nsIn K mainGlobals "_law_bag" = some (some (.ref f__law_bag)))
    (l__law_bag : K.lookup f__law_bag = some ⟨oc__law_bag, od__law_bag, .func (PySem.W.fnOf "_law_bag" "_law_bag" (defArgs st__law_bag) (defBody st__law_bag) (defScope st__law_bag) .none kV__law_bag dc__law_bag pm__law_bag an__law_bag cd__law_bag ct__law_bag), sl__law_bag⟩)
    (c__law_bag : PySem.W.codeIn K cd__law_bag "_law_bag" = true)
    (k__law_bag : PySem.W.keepIn K (.ref f__law_bag) = true)
    (a_form_of : PySem.W.nsIn K mainGlobals "form_of" = some (some (.ref f_form_of)))
    (l_form_of : K.lookup f_form_of = some ⟨oc_form_of, od_form_of, .func (PySem.W.fnOf "form_of" "form_of" (defArgs st_form_of) (defBody st_form_of) (defScope st_form_of) .none kV_form_of dc_form_of pm_form_of an_form_of cd_form_of ct_form_of), sl_form_of⟩)
    (c_form_of : PySem.W.codeIn K cd_form_of "form_of" = true)
    (k_form_of : PySem.W.keepIn K (.ref f_form_of) = true)
    (a_Form___mul__ : PySem.W.findIn K (.ref C_Form) "__mul__" = some (some (.ref f_Form___mul__)))
    (i_Form___mul__ : PySem.W.isFn K (.ref f_Form___mul__) = true)
    (l_Form___mul__ : K.lookup f_Form___mul__ = some ⟨oc_Form___mul__, od_Form___mul__, .func (PySem.W.fnOf "__mul__" "Form.__mul__" (defArgs st_Form___mul__) (defBody st_Form___mul__) (defScope st_Form___mul__) .none kV_Form___mul__ dc_Form___mul__ pm_Form___mul__ an_Form___mul__ cd_Form___mul__ ct_Form___mul__), sl_Form___mul__⟩)
    (c_Form___mul__ : PySem.W.codeIn K cd_Form___mul__ "Form.__mul__" = true)
    (k_Form___mul__ : PySem.W.keepIn K (.ref f_Form___mul__) = true)
    (a_Form___neg__ : PySem.W.findIn K (.ref C_Form) "__neg__" = some (some (.ref f_Form___neg__)))
    (i_Form___neg__ : PySem.W.isFn K (.ref f_Form___neg__) = true)
    (l_Form___neg__ : K.lookup f_Form___neg__ = some ⟨oc_Form___neg__, od_Form___neg__, .func (PySem.W.fnOf "__neg__" "Form.__neg__" (defArgs st_Form___neg__) (defBody st_Form___neg__) (defScope st_Form___neg__) .none kV_Form___neg__ dc_Form___neg__ pm_Form___neg__ an_Form___neg__ cd_Form___neg__ ct_Form___neg__), sl_Form___neg__⟩)
    (c_Form___neg__ : PySem.W.codeIn K cd_Form___neg__ "Form.__neg__" = true)
    (k_Form___neg__ : PySem.W.keepIn K (.ref f_Form___neg__) = true)
    (a__law_draw : PySem.W.nsIn K mainGlobals "_law_draw" = some (some (.ref f__law_draw)))
    (l__law_draw : K.lookup f__law_draw = some ⟨oc__law_draw, od__law_draw, .func (PySem.W.fnOf "_law_draw" "_law_draw" (defArgs st__law_draw) (defBody st__law_draw) (defScope st__law_draw) .none kV__law_draw dc__law_draw pm__law_draw an__law_draw cd__law_draw ct__law_draw), sl__law_draw⟩)
    (c__law_draw : PySem.W.codeIn K cd__law_draw "_law_draw" = true)
    (k__law_draw : PySem.W.keepIn K (.ref f__law_draw) = true)
    (a__law_one : PySem.W.nsIn K mainGlobals "_law_one" = some (some (.ref f__law_one)))
    (l__law_one : K.lookup f__law_one = some ⟨oc__law_one, od__law_one, .func (PySem.W.fnOf "_law_one" "_law_one" (defArgs st__law_one) (defBody st__law_one) (defScope st__law_one) .none kV__law_one dc__law_one pm__law_one an__law_one cd__law_one ct__law_one), sl__law_one⟩)
    (c__law_one : PySem.W.codeIn K cd__law_one "_law_one" = true)
    (k__law_one : PySem.W.keepIn K (.ref f__law_one) = true)
    (a__law_piece : PySem.W.nsIn K mainGlobals "_law_piece" = some (some (.ref f__law_piece)))
    (l__law_piece : K.lookup f__law_piece = some ⟨oc__law_piece, od__law_piece, .func (PySem.W.fnOf "_law_piece" "_law_piece" (defArgs st__law_piece) (defBody st__law_piece) (defScope st__law_piece) .none kV__law_piece dc__law_piece pm__law_piece an__law_piece cd__law_piece ct__law_piece), sl__law_piece⟩)
    (c__law_piece : PySem.W.codeIn K cd__law_piece "_law_piece" = true)
    (k__law_piece : PySem.W.keepIn K (.ref f__law_piece) = true)
    (a__law_written : PySem.W.nsIn K mainGlobals "_law_written" = some (some (.ref f__law_written)))
    (l__law_written : K.lookup f__law_written = some ⟨oc__law_written, od__law_written, .func (PySem.W.fnOf "_law_written" "_law_written" (defArgs st__law_written) (defBody st__law_written) (defScope st__law_written) .none kV__law_written dc__law_written pm__law_written an__law_written cd__law_written ct__law_written), sl__law_written⟩)
    (c__law_written : PySem.W.codeIn K cd__law_written "_law_written" = true)
    (k__law_written : PySem.W.keepIn K (.ref f__law_written) = true)
    (a__law_right : PySem.W.nsIn K mainGlobals "_law_right" = some (some (.ref f__law_right)))
    (l__law_right : K.lookup f__law_right = some ⟨oc__law_right, od__law_right, .func (PySem.W.fnOf "_law_right" "_law_right" (defArgs st__law_right) (defBody st__law_right) (defScope st__law_right) .none kV__law_right dc__law_right pm__law_right an__law_right cd__law_right ct__law_right), sl__law_right⟩)
    (c__law_right : PySem.W.codeIn K cd__law_right "_law_right" = true)
    (k__law_right : PySem.W.keepIn K (.ref f__law_right) = true)
    (a_law : PySem.W.nsIn K mainGlobals "law" = some (some (.ref f_law)))
    (l_law : K.lookup f_law = some ⟨oc_law, od_law, .func (PySem.W.fnOf "law" "law" (defArgs st_law) (defBody st_law) (defScope st_law) .none kV_law dc_law pm_law an_law cd_law ct_law), sl_law⟩)
    (c_law : PySem.W.codeIn K cd_law "law" = true)
    (k_law : PySem.W.keepIn K (.ref f_law) = true)
    (ee_emp : K.lookup e_emp = some eo_emp)
    (ec_emp : eo_emp.cls = .type "tuple")
    (ed_emp : eo_emp.data = .seq #[] en_emp)
    (z_abs : PySem.W.nsIn K mainGlobals "abs" = some none)
    (z_all : PySem.W.nsIn K mainGlobals "all" = some none)
    (z_bool : PySem.W.nsIn K mainGlobals "bool" = some none)
    (z_int : PySem.W.nsIn K mainGlobals "int" = some none)
    (z_isinstance : PySem.W.nsIn K mainGlobals "isinstance" = some none)
    (z_len : PySem.W.nsIn K mainGlobals "len" = some none)
    (z_max : PySem.W.nsIn K mainGlobals "max" = some none)
    (z_min : PySem.W.nsIn K mainGlobals "min" = some none)
    (z_range : PySem.W.nsIn K mainGlobals "range" = some none)
    (z_sorted : PySem.W.nsIn K mainGlobals "sorted" = some none)
    (z_str : PySem.W.nsIn K mainGlobals "str" = some none)
    (z_tuple : PySem.W.nsIn K mainGlobals "tuple" = some none)
    (z_zip : PySem.W.nsIn K mainGlobals "zip" = some none)
    (pg_Form : PySem.W.plainGet K C_Form Str.empty = true)
    (hd_Form : PySem.W.hasDictIn K C_Form = true)
    (po_Form : PySem.W.plainOver K C_Form = true)
    (sa_Form : PySem.W.findIn K (.ref C_Form) "__setattr__" = some (some (.builtin "object.__setattr__")))
    (mk_Form : PySem.W.makesIn K C_Form = true)
    (kc_Form : PySem.W.keepIn K (.ref C_Form) = true)
    (sf_Form : PySem.W.selfFirst K C_Form = true)
    (si_Form : PySem.W.subIn K (.type "int") (.ref C_Form) = some false)
    (sj_Form : PySem.W.subIn K (.ref C_Form) (.type "int") = some false)
    (ha_Form : PySem.W.findIn K (.ref C_Form) "__class__" = some (some (.builtin "object.__class__")))
    (hm_Form : PySem.W.mroIn K C_Form (.type "object") = some true)
    (kb_Form_int : PySem.W.kitOne K (.ref C_Form) (.type "int") = some false)
    (kb_Form_bool : PySem.W.kitOne K (.ref C_Form) (.type "bool") = some false)
    (kb_Form_str : PySem.W.kitOne K (.ref C_Form) (.type "str") = some false)
    (kb_Form_tuple : PySem.W.kitOne K (.ref C_Form) (.type "tuple") = some false)
    (kb_Form_list : PySem.W.kitOne K (.ref C_Form) (.type "list") = some false)
    (kb_Form_dict : PySem.W.kitOne K (.ref C_Form) (.type "dict") = some false)
    (kt_Form_NoneType : PySem.W.kitOne K (.type "NoneType") (.ref C_Form) = some false)
    (nf_Form_NoneType : PySem.W.notFirst K C_Form (.type "NoneType") = true)
    (kt_Form_bool : PySem.W.kitOne K (.type "bool") (.ref C_Form) = some false)
    (nf_Form_bool : PySem.W.notFirst K C_Form (.type "bool") = true)
    (kt_Form_int : PySem.W.kitOne K (.type "int") (.ref C_Form) = some false)
    (nf_Form_int : PySem.W.notFirst K C_Form (.type "int") = true)
    (kt_Form_str : PySem.W.kitOne K (.type "str") (.ref C_Form) = some false)
    (nf_Form_str : PySem.W.notFirst K C_Form (.type "str") = true)
    (kt_Form_list : PySem.W.kitOne K (.type "list") (.ref C_Form) = some false)
    (nf_Form_list : PySem.W.notFirst K C_Form (.type "list") = true)
    (kt_Form_tuple : PySem.W.kitOne K (.type "tuple") (.ref C_Form) = some false)
    (nf_Form_tuple : PySem.W.notFirst K C_Form (.type "tuple") = true)
    (kt_Form_dict : PySem.W.kitOne K (.type "dict") (.ref C_Form) = some false)
    (nf_Form_dict : PySem.W.notFirst K C_Form (.type "dict") = true)
    (nn_Form_Form : PySem.W.notFirst K C_Form (.ref C_Form) = true)
    (hn : PySem.W.specialIn K (.builtin "object.__class__") "__get__" = some (some (.builtin "getset_descriptor.__get__")))
    (ht : PySem.W.takesIn K (.builtin "object.__class__") = some true)
    (na_Form_constant : PySem.W.findIn K (.ref C_Form) "constant" = some none)
    (na_Form_names : PySem.W.findIn K (.ref C_Form) "names" = some none)
    (na_Form_terms : PySem.W.findIn K (.ref C_Form) "terms" = some none)
    (of_Form_mul : PySem.W.findIn K (.ref C_Form) (PySem.dunder "mul") = some (some (.ref f_Form___mul__)))
    (i1_Form_mul : PySem.W.findIn K (.type "int") (PySem.dunder "mul") = some fo_Form_mul)
    (i2_Form_mul : PySem.W.findIn K (.type "int") (dunderR "mul") = some ro_Form_mul)
    (nr_Form_mul : PySem.W.findIn K (.ref C_Form) (dunderR "mul") = some none) :
    ∃ fd : FuncData, (∀ (s : Shared) (v : Value), BindsTo s fd ⟨[v], []⟩ [("_law_cells", v)]) ∧ ∀ base : Heap, K.In base → base.Ns mainGlobals mg → FnOk l.prog w K mg base (L2.CX l.prog w) 15 fa fd ["_law_cells"] (sp_law K ({} : Cl)) := by
  have e := hfa.symm.trans (PySem.W.mg_of X G a_law)
  cases e
  have F_are_small := fun_mk (st := st_are_small) l_are_small c_are_small k_are_small
  have b_are_small := F_are_small.binds (ps := ["value", "least", "most"]) fun _ _ _ _ _ _ us hl => match us, hl with | [_, _, _], _ => rfl
  have F_is_integer := fun_mk (st := st_is_integer) l_is_integer c_is_integer k_is_integer
  have b_is_integer := F_is_integer.binds (ps := ["value"]) fun _ _ _ _ _ _ us hl => match us, hl with | [_], _ => rfl
  have F_are_terms := fun_mk (st := st_are_terms) l_are_terms c_are_terms k_are_terms
  have b_are_terms := F_are_terms.binds (ps := ["value"]) fun _ _ _ _ _ _ us hl => match us, hl with | [_], _ => rfl
  have F_Form___init__ : FunD K "__init__" "Form.__init__" (defArgs st_Form___init__) (defBody st_Form___init__) (defScope st_Form___init__) [.int 0, .ref e_emp] [] f_Form___init__ (PySem.W.fnOf "__init__" "Form.__init__" (defArgs st_Form___init__) (defBody st_Form___init__) (defScope st_Form___init__) (.ref dt_Form___init__) kV_Form___init__ dc_Form___init__ pm_Form___init__ an_Form___init__ cd_Form___init__ ct_Form___init__) := ⟨⟨oc_Form___init__, od_Form___init__, _, kV_Form___init__, dc_Form___init__, pm_Form___init__, an_Form___init__, cd_Form___init__, ct_Form___init__, sl_Form___init__, rfl, l_Form___init__, c_Form___init__, .inr ⟨by simp, dt_Form___init__, _, tv_Form___init__.toList, tn_Form___init__, rfl, t_Form___init__, rfl, u_Form___init__⟩, .inl rfl⟩, k_Form___init__⟩
  have b_Form___init__ : Binds K (PySem.W.fnOf "__init__" "Form.__init__" (defArgs st_Form___init__) (defBody st_Form___init__) (defScope st_Form___init__) (.ref dt_Form___init__) kV_Form___init__ dc_Form___init__ pm_Form___init__ an_Form___init__ cd_Form___init__ ct_Form___init__) ["self", "constant", "terms"] [] := FunD_all F_Form___init__ (by simp) fun T kV doc pm an cdv ct us its l1 l2 => match us, its, l1, l2 with | [_, _, _], [_, _], _, _ => ⟨_, rfl, rfl⟩
  have F_piece_text := fun_mk (st := st_piece_text) l_piece_text c_piece_text k_piece_text
  have b_piece_text := F_piece_text.binds (ps := ["times", "name"]) fun _ _ _ _ _ _ us hl => match us, hl with | [_, _], _ => rfl
  have F_text_of := fun_mk (st := st_text_of) l_text_of c_text_of k_text_of
  have b_text_of := F_text_of.binds (ps := ["form"]) fun _ _ _ _ _ _ us hl => match us, hl with | [_], _ => rfl
  have F_Form___str__ := fun_mk (st := st_Form___str__) l_Form___str__ c_Form___str__ k_Form___str__
  have b_Form___str__ := F_Form___str__.binds (ps := ["self"]) fun _ _ _ _ _ _ us hl => match us, hl with | [_], _ => rfl
  have F__law_bag := fun_mk (st := st__law_bag) l__law_bag c__law_bag k__law_bag
  have b__law_bag := F__law_bag.binds (ps := ["_law_cells", "_law_k"]) fun _ _ _ _ _ _ us hl => match us, hl with | [_, _], _ => rfl
  have F_form_of := fun_mk (st := st_form_of) l_form_of c_form_of k_form_of
  have b_form_of := F_form_of.binds (ps := ["constant", "numbers"]) fun _ _ _ _ _ _ us hl => match us, hl with | [_, _], _ => rfl
  have F_Form___mul__ := fun_mk (st := st_Form___mul__) l_Form___mul__ c_Form___mul__ k_Form___mul__
  have b_Form___mul__ := F_Form___mul__.binds (ps := ["self", "other"]) fun _ _ _ _ _ _ us hl => match us, hl with | [_, _], _ => rfl
  have F_Form___neg__ := fun_mk (st := st_Form___neg__) l_Form___neg__ c_Form___neg__ k_Form___neg__
  have b_Form___neg__ := F_Form___neg__.binds (ps := ["self"]) fun _ _ _ _ _ _ us hl => match us, hl with | [_], _ => rfl
  have F__law_draw := fun_mk (st := st__law_draw) l__law_draw c__law_draw k__law_draw
  have b__law_draw := F__law_draw.binds (ps := ["_law_bag_here", "_law_wide"]) fun _ _ _ _ _ _ us hl => match us, hl with | [_, _], _ => rfl
  have F__law_one := fun_mk (st := st__law_one) l__law_one c__law_one k__law_one
  have b__law_one := F__law_one.binds (ps := ["_law_bag_here", "_law_some"]) fun _ _ _ _ _ _ us hl => match us, hl with | [_, _], _ => rfl
  have F__law_piece := fun_mk (st := st__law_piece) l__law_piece c__law_piece k__law_piece
  have b__law_piece := F__law_piece.binds (ps := ["_law_size_here", "_law_called"]) fun _ _ _ _ _ _ us hl => match us, hl with | [_, _], _ => rfl
  have F__law_written := fun_mk (st := st__law_written) l__law_written c__law_written k__law_written
  have b__law_written := F__law_written.binds (ps := ["_law_first", "_law_pairs"]) fun _ _ _ _ _ _ us hl => match us, hl with | [_, _], _ => rfl
  have F__law_right := fun_mk (st := st__law_right) l__law_right c__law_right k__law_right
  have b__law_right := F__law_right.binds (ps := ["_law_bag_here"]) fun _ _ _ _ _ _ us hl => match us, hl with | [_], _ => rfl
  have F_law := fun_mk (st := st_law) l_law c_law k_law
  have b_law := F_law.binds (ps := ["_law_cells"]) fun _ _ _ _ _ _ us hl => match us, hl with | [_], _ => rfl
  have bd_Form___init___1 : ∃ ds, Vals [.ref e_emp] ds ∧ Binds K (PySem.W.fnOf "__init__" "Form.__init__" (defArgs st_Form___init__) (defBody st_Form___init__) (defScope st_Form___init__) (.ref dt_Form___init__) kV_Form___init__ dc_Form___init__ pm_Form___init__ an_Form___init__ cd_Form___init__ ct_Form___init__) ["self", "constant", "terms"] ds := FunD.binds1 (ps := ["self", "constant", "terms"]) F_Form___init__ 2 1 (by simp) (by rfl) fun T kV doc pm an cdv ct us its l1 l2 => match us, its, l1, l2 with | [_, _], [_, _], _, _ => ⟨_, rfl, rfl⟩
  have bd_Form___init___2 : ∃ ds, Vals [.int 0, .ref e_emp] ds ∧ Binds K (PySem.W.fnOf "__init__" "Form.__init__" (defArgs st_Form___init__) (defBody st_Form___init__) (defScope st_Form___init__) (.ref dt_Form___init__) kV_Form___init__ dc_Form___init__ pm_Form___init__ an_Form___init__ cd_Form___init__ ct_Form___init__) ["self", "constant", "terms"] ds := FunD.binds1 (ps := ["self", "constant", "terms"]) F_Form___init__ 1 0 (by simp) (by rfl) fun T kV doc pm an cdv ct us its l1 l2 => match us, its, l1, l2 with | [_], [_, _], _, _ => ⟨_, rfl, rfl⟩
  let a : Cl := { C_Form := C_Form, cls := [C_Form], emp := e_emp }
  let x : Fx := { f_are_small := f_are_small, d_are_small := (PySem.W.fnOf "are_small" "are_small" (defArgs st_are_small) (defBody st_are_small) (defScope st_are_small) .none kV_are_small dc_are_small pm_are_small an_are_small cd_are_small ct_are_small), f_is_integer := f_is_integer, d_is_integer := (PySem.W.fnOf "is_integer" "is_integer" (defArgs st_is_integer) (defBody st_is_integer) (defScope st_is_integer) .none kV_is_integer dc_is_integer pm_is_integer an_is_integer cd_is_integer ct_is_integer), f_are_terms := f_are_terms, d_are_terms := (PySem.W.fnOf "are_terms" "are_terms" (defArgs st_are_terms) (defBody st_are_terms) (defScope st_are_terms) .none kV_are_terms dc_are_terms pm_are_terms an_are_terms cd_are_terms ct_are_terms), f_Form___init__ := f_Form___init__, d_Form___init__ := (PySem.W.fnOf "__init__" "Form.__init__" (defArgs st_Form___init__) (defBody st_Form___init__) (defScope st_Form___init__) (.ref dt_Form___init__) kV_Form___init__ dc_Form___init__ pm_Form___init__ an_Form___init__ cd_Form___init__ ct_Form___init__), f_piece_text := f_piece_text, d_piece_text := (PySem.W.fnOf "piece_text" "piece_text" (defArgs st_piece_text) (defBody st_piece_text) (defScope st_piece_text) .none kV_piece_text dc_piece_text pm_piece_text an_piece_text cd_piece_text ct_piece_text), f_text_of := f_text_of, d_text_of := (PySem.W.fnOf "text_of" "text_of" (defArgs st_text_of) (defBody st_text_of) (defScope st_text_of) .none kV_text_of dc_text_of pm_text_of an_text_of cd_text_of ct_text_of), f_Form___str__ := f_Form___str__, d_Form___str__ := (PySem.W.fnOf "__str__" "Form.__str__" (defArgs st_Form___str__) (defBody st_Form___str__) (defScope st_Form___str__) .none kV_Form___str__ dc_Form___str__ pm_Form___str__ an_Form___str__ cd_Form___str__ ct_Form___str__), f__law_bag := f__law_bag, d__law_bag := (PySem.W.fnOf "_law_bag" "_law_bag" (defArgs st__law_bag) (defBody st__law_bag) (defScope st__law_bag) .none kV__law_bag dc__law_bag pm__law_bag an__law_bag cd__law_bag ct__law_bag), f_form_of := f_form_of, d_form_of := (PySem.W.fnOf "form_of" "form_of" (defArgs st_form_of) (defBody st_form_of) (defScope st_form_of) .none kV_form_of dc_form_of pm_form_of an_form_of cd_form_of ct_form_of), f_Form___mul__ := f_Form___mul__, d_Form___mul__ := (PySem.W.fnOf "__mul__" "Form.__mul__" (defArgs st_Form___mul__) (defBody st_Form___mul__) (defScope st_Form___mul__) .none kV_Form___mul__ dc_Form___mul__ pm_Form___mul__ an_Form___mul__ cd_Form___mul__ ct_Form___mul__), f_Form___neg__ := f_Form___neg__, d_Form___neg__ := (PySem.W.fnOf "__neg__" "Form.__neg__" (defArgs st_Form___neg__) (defBody st_Form___neg__) (defScope st_Form___neg__) .none kV_Form___neg__ dc_Form___neg__ pm_Form___neg__ an_Form___neg__ cd_Form___neg__ ct_Form___neg__), f__law_draw := f__law_draw, d__law_draw := (PySem.W.fnOf "_law_draw" "_law_draw" (defArgs st__law_draw) (defBody st__law_draw) (defScope st__law_draw) .none kV__law_draw dc__law_draw pm__law_draw an__law_draw cd__law_draw ct__law_draw), f__law_one := f__law_one, d__law_one := (PySem.W.fnOf "_law_one" "_law_one" (defArgs st__law_one) (defBody st__law_one) (defScope st__law_one) .none kV__law_one dc__law_one pm__law_one an__law_one cd__law_one ct__law_one), f__law_piece := f__law_piece, d__law_piece := (PySem.W.fnOf "_law_piece" "_law_piece" (defArgs st__law_piece) (defBody st__law_piece) (defScope st__law_piece) .none kV__law_piece dc__law_piece pm__law_piece an__law_piece cd__law_piece ct__law_piece), f__law_written := f__law_written, d__law_written := (PySem.W.fnOf "_law_written" "_law_written" (defArgs st__law_written) (defBody st__law_written) (defScope st__law_written) .none kV__law_written dc__law_written pm__law_written an__law_written cd__law_written ct__law_written), f__law_right := f__law_right, d__law_right := (PySem.W.fnOf "_law_right" "_law_right" (defArgs st__law_right) (defBody st__law_right) (defScope st__law_right) .none kV__law_right dc__law_right pm__law_right an__law_right cd__law_right ct__law_right), f_law := fa, d_law := (PySem.W.fnOf "law" "law" (defArgs st_law) (defBody st_law) (defScope st_law) .none kV_law dc_law pm_law an_law cd_law ct_law), fo_Form_mul := fo_Form_mul, ro_Form_mul := ro_Form_mul }
  have cf_Form : CF K C_Form := ⟨⟨pg_Form, hd_Form, po_Form, sa_Form⟩, ha_Form, hn, ht, hm_Form,
    fun T hT => by simp only [List.mem_cons, List.not_mem_nil, or_false] at hT; rcases hT with rfl | rfl | rfl | rfl | rfl | rfl <;> assumption,
    fun T hT => by simp only [List.mem_cons, List.not_mem_nil, or_false] at hT; rcases hT with rfl | rfl | rfl | rfl | rfl | rfl | rfl <;> assumption,
    fun T hT => by simp only [List.mem_cons, List.not_mem_nil, or_false] at hT; rcases hT with rfl | rfl | rfl | rfl | rfl | rfl | rfl <;> assumption⟩
  have kf : KF K a := by
    refine ⟨fun C hC => ?_, fun C hC D hD => ?_, fun C hC D hD => ?_⟩
    · cases List.mem_singleton.mp hC; exact cf_Form
    · cases List.mem_singleton.mp hC; cases List.mem_singleton.mp hD; unfold PySem.W.kitOne; simp
    · cases List.mem_singleton.mp hC; cases List.mem_singleton.mp hD; exact nn_Form_Form
  have T : Txt K mg a x := { kf := kf, in_Form := by simp [a], F_are_small := F_are_small, b_are_small := b_are_small, F_is_integer := F_is_integer, b_is_integer := b_is_integer, F_are_terms := F_are_terms, b_are_terms := b_are_terms, F_Form___init__ := F_Form___init__, b_Form___init__ := b_Form___init__, F_piece_text := F_piece_text, b_piece_text := b_piece_text, F_text_of := F_text_of, b_text_of := b_text_of, F_Form___str__ := F_Form___str__, b_Form___str__ := b_Form___str__, F__law_bag := F__law_bag, b__law_bag := b__law_bag, F_form_of := F_form_of, b_form_of := b_form_of, F_Form___mul__ := F_Form___mul__, b_Form___mul__ := b_Form___mul__, F_Form___neg__ := F_Form___neg__, b_Form___neg__ := b_Form___neg__, F__law_draw := F__law_draw, b__law_draw := b__law_draw, F__law_one := F__law_one, b__law_one := b__law_one, F__law_piece := F__law_piece, b__law_piece := b__law_piece, F__law_written := F__law_written, b__law_written := b__law_written, F__law_right := F__law_right, b__law_right := b__law_right, F_law := F_law, b_law := b_law, g__law_bag := PySem.W.mg_of X G a__law_bag, g__law_draw := PySem.W.mg_of X G a__law_draw, g__law_one := PySem.W.mg_of X G a__law_one, g__law_piece := PySem.W.mg_of X G a__law_piece, g__law_right := PySem.W.mg_of X G a__law_right, g__law_written := PySem.W.mg_of X G a__law_written, g_are_small := PySem.W.mg_of X G a_are_small, g_are_terms := PySem.W.mg_of X G a_are_terms, g_form_of := PySem.W.mg_of X G a_form_of, g_is_integer := PySem.W.mg_of X G a_is_integer, g_piece_text := PySem.W.mg_of X G a_piece_text, g_text_of := PySem.W.mg_of X G a_text_of, n_abs := PySem.W.mg_none_of X G z_abs, n_all := PySem.W.mg_none_of X G z_all, n_bool := PySem.W.mg_none_of X G z_bool, n_int := PySem.W.mg_none_of X G z_int, n_isinstance := PySem.W.mg_none_of X G z_isinstance, n_len := PySem.W.mg_none_of X G z_len, n_max := PySem.W.mg_none_of X G z_max, n_min := PySem.W.mg_none_of X G z_min, n_range := PySem.W.mg_none_of X G z_range, n_sorted := PySem.W.mg_none_of X G z_sorted, n_str := PySem.W.mg_none_of X G z_str, n_tuple := PySem.W.mg_none_of X G z_tuple, n_zip := PySem.W.mg_none_of X G z_zip, g_Form := PySem.W.mg_of X G aC_Form, cl_Form := cf_Form.cl, sf_Form := sf_Form, int_Form := si_Form, sub_Form := sj_Form, mk_Form := ⟨mk_Form, a_Form___init__, i_Form___init__, kc_Form⟩, na_Form_constant := na_Form_constant, na_Form_names := na_Form_names, na_Form_terms := na_Form_terms, o_Form_mul := ⟨of_Form_mul, i_Form___mul__⟩, nr_Form_mul := nr_Form_mul, i1_Form_mul := i1_Form_mul, i2_Form_mul := i2_Form_mul, o_Form_neg := ⟨a_Form___neg__, i_Form___neg__⟩, o_Form_str := ⟨a_Form___str__, i_Form___str__⟩, emp := fun H => .inr ⟨eo_emp, #[], en_emp, ee_emp, ec_emp, ed_emp, Nat.zero_le _, .nil⟩, bd_Form___init___1 := bd_Form___init___1, bd_Form___init___2 := bd_Form___init___2 }
  exact ⟨_, fun s v => .of_eq rfl, fun base _ _ => ok_law T⟩
theorem walk {l : PySem.W.OpenLaw} {q : Program} {loose : List Str} {XP : (Str → Option Value) → Heap → Prop} {YP : World → Heap → Prop} {d : DefRec} {K : Params → PySem.W.Frag} (hn : l.most = some 63) (hdf : d.params.defaults = [])
    (hY : ∀ (w : World) (h : Heap), YP w h → (K w.params).In h)
    (F : ∀ (w : World) (mg : Str → Option Value) (fa : Addr) (h : Heap), (K w.params).In h → h.Ns mainGlobals mg → mg d.name = some (.ref fa) →
      ∃ fd : FuncData, (∀ (s : Shared) (u : Value), BindsTo s fd ⟨[u], []⟩ [("_law_cells", u)]) ∧ ∀ base : Heap, (K w.params).In base → base.Ns mainGlobals mg → FnOk l.prog w (K w.params) mg base (L2.CX l.prog w) 15 fa fd ["_law_cells"] (sp_law (K w.params) ({} : Cl))) :
    PySem.W.WalkO q loose XP YP l.row.toRowW d [] (fun f vs => PySem.call f vs) :=
  L2.walk_of (n := 63) (k := 15) (x := "_law_cells") (CX := fun w => L2.CX l.prog w) (sp := fun w => sp_law (K w.params) ({} : Cl)) hn (by decide) hdf ⟨rfl, by decide, by decide⟩ hY F (fun _ _ a ns hl _ hS => ⟨a, ns, rfl, hS, hl, fun _ => rfl⟩) fun _ _ _ _ _ h => by
    obtain ⟨_, _, _, _, _, _, _, _, _, _, _, _, z⟩ := h
    exact z
end SL
open PySem PySem.W PyProof.Rows
set_option maxRecDepth 100000 in
set_option maxHeartbeats 0 in
theorem PySem.Challenge.cw_slackstrings_k06_whole_texts_of_forms_holds : PySem.Challenge.rw_slackstrings_k06_whole_texts_of_forms.Holds := by
  w_on; o_law; k_head; (case hw => w_witness2)
  k_fill
  refine SL.walk (l := PySem.Challenge.rw_slackstrings_k06_whole_texts_of_forms) rfl rfl (fun w h Y => PySem.W.kIn_of Y) ?F
  case F =>
    intro w mg fa h KX G hmg
    refine' SL.all_mk KX G hmg ?aC_Form ?a_are_small ?l_are_small ?c_are_small ?k_are_small ?a_is_integer ?l_is_integer ?c_is_integer ?k_is_integer ?a_are_terms ?l_are_terms ?c_are_terms ?k_are_terms ?a_Form___init__ ?i_Form___init__ ?l_Form___init__ ?c_Form___init__ ?k_Form___init__ ?t_Form___init__ ?u_Form___init__ ?a_piece_text ?l_piece_text ?c_piece_text ?k_piece_text ?a_text_of ?l_text_of ?c_text_of ?k_text_of ?a_Form___str__ ?i_Form___str__ ?l_Form___str__ ?c_Form___str__ ?k_Form___str__ ?a__law_bag ?l__law_bag ?c__law_bag ?k__law_bag ?a_form_of ?l_form_of ?c_form_of ?k_form_of ?a_Form___mul__ ?i_Form___mul__ ?l_Form___mul__ ?c_Form___mul__ ?k_Form___mul__ ?a_Form___neg__ ?i_Form___neg__ ?l_Form___neg__ ?c_Form___neg__ ?k_Form___neg__ ?a__law_draw ?l__law_draw ?c__law_draw ?k__law_draw ?a__law_one ?l__law_one ?c__law_one ?k__law_one ?a__law_piece ?l__law_piece ?c__law_piece ?k__law_piece ?a__law_written ?l__law_written ?c__law_written ?k__law_written ?a__law_right ?l__law_right ?c__law_right ?k__law_right ?a_law ?l_law ?c_law ?k_law ?ee_emp ?ec_emp ?ed_emp ?z_abs ?z_all ?z_bool ?z_int ?z_isinstance ?z_len ?z_max ?z_min ?z_range ?z_sorted ?z_str ?z_tuple ?z_zip ?pg_Form ?hd_Form ?po_Form ?sa_Form ?mk_Form ?kc_Form ?sf_Form ?si_Form ?sj_Form ?ha_Form ?hm_Form ?kb_Form_int ?kb_Form_bool ?kb_Form_str ?kb_Form_tuple ?kb_Form_list ?kb_Form_dict ?kt_Form_NoneType ?nf_Form_NoneType ?kt_Form_bool ?nf_Form_bool ?kt_Form_int ?nf_Form_int ?kt_Form_str ?nf_Form_str ?kt_Form_list ?nf_Form_list ?kt_Form_tuple ?nf_Form_tuple ?kt_Form_dict ?nf_Form_dict ?nn_Form_Form ?hn ?ht ?na_Form_constant ?na_Form_names ?na_Form_terms ?of_Form_mul ?i1_Form_mul ?i2_Form_mul ?nr_Form_mul
    (case aC_Form => k_is); (case a_are_small => k_is); (case l_are_small => k_is); (case c_are_small => k_is); (case k_are_small => k_is); (case a_is_integer => k_is); (case l_is_integer => k_is); (case c_is_integer => k_is)
    (case k_is_integer => k_is); (case a_are_terms => k_is); (case l_are_terms => k_is); (case c_are_terms => k_is); (case k_are_terms => k_is); (case a_Form___init__ => k_is); (case i_Form___init__ => k_is); (case l_Form___init__ => k_is)
    (case c_Form___init__ => k_is); (case k_Form___init__ => k_is); (case t_Form___init__ => k_is); (case u_Form___init__ => exact (.cons ⟨_, rfl⟩ (.cons rfl .nil))); (case a_piece_text => k_is); (case l_piece_text => k_is); (case c_piece_text => k_is); (case k_piece_text => k_is)
    (case a_text_of => k_is); (case l_text_of => k_is); (case c_text_of => k_is); (case k_text_of => k_is); (case a_Form___str__ => k_is); (case i_Form___str__ => k_is); (case l_Form___str__ => k_is); (case c_Form___str__ => k_is)
    (case k_Form___str__ => k_is); (case a__law_bag => k_is); (case l__law_bag => k_is); (case c__law_bag => k_is); (case k__law_bag => k_is); (case a_form_of => k_is); (case l_form_of => k_is); (case c_form_of => k_is)
    (case k_form_of => k_is); (case a_Form___mul__ => k_is); (case i_Form___mul__ => k_is); (case l_Form___mul__ => k_is); (case c_Form___mul__ => k_is); (case k_Form___mul__ => k_is); (case a_Form___neg__ => k_is); (case i_Form___neg__ => k_is)
    (case l_Form___neg__ => k_is); (case c_Form___neg__ => k_is); (case k_Form___neg__ => k_is); (case a__law_draw => k_is); (case l__law_draw => k_is); (case c__law_draw => k_is); (case k__law_draw => k_is); (case a__law_one => k_is)
    (case l__law_one => k_is); (case c__law_one => k_is); (case k__law_one => k_is); (case a__law_piece => k_is); (case l__law_piece => k_is); (case c__law_piece => k_is); (case k__law_piece => k_is); (case a__law_written => k_is)
    (case l__law_written => k_is); (case c__law_written => k_is); (case k__law_written => k_is); (case a__law_right => k_is); (case l__law_right => k_is); (case c__law_right => k_is); (case k__law_right => k_is); (case a_law => k_is)
    (case l_law => k_is); (case c_law => k_is); (case k_law => k_is); (case ee_emp => k_is); (case ec_emp => rfl); (case ed_emp => rfl); (case z_abs => k_is); (case z_all => k_is)
    (case z_bool => k_is); (case z_int => k_is); (case z_isinstance => k_is); (case z_len => k_is); (case z_max => k_is); (case z_min => k_is); (case z_range => k_is); (case z_sorted => k_is)
    (case z_str => k_is); (case z_tuple => k_is); (case z_zip => k_is); (case pg_Form => k_is); (case hd_Form => k_is); (case po_Form => k_is); (case sa_Form => k_is); (case mk_Form => k_is)
    (case kc_Form => k_is); (case sf_Form => k_is); (case si_Form => k_is); (case sj_Form => k_is); (case ha_Form => k_is); (case hm_Form => k_is); (case kb_Form_int => kit_is); (case kb_Form_bool => kit_is)
    (case kb_Form_str => kit_is); (case kb_Form_tuple => kit_is); (case kb_Form_list => kit_is); (case kb_Form_dict => kit_is); (case kt_Form_NoneType => kit_is); (case nf_Form_NoneType => k_is); (case kt_Form_bool => kit_is); (case nf_Form_bool => k_is)
    (case kt_Form_int => kit_is); (case nf_Form_int => k_is); (case kt_Form_str => kit_is); (case nf_Form_str => k_is); (case kt_Form_list => kit_is); (case nf_Form_list => k_is); (case kt_Form_tuple => kit_is); (case nf_Form_tuple => k_is)
    (case kt_Form_dict => kit_is); (case nf_Form_dict => k_is); (case nn_Form_Form => k_is); (case hn => k_is); (case ht => k_is); (case na_Form_constant => k_is); (case na_Form_names => k_is); (case na_Form_terms => k_is)
    (case of_Form_mul => k_is); (case i1_Form_mul => k_is); (case i2_Form_mul => k_is); (case nr_Form_mul => k_is)
