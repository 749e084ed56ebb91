import PyProof.Rows.All
import Wide.All
import OpenK.AllK
import Wide.FinOn
import PyProof.TwoTypes
import PyProof.ListMulRight
import PyProof.NeKinds
import PyProof.InstNe
import KE.KOpsOwn
import HandS.ForMost
import HandS.ForExc
import HandS.Defaults
import HandS.MakeKw
import HandS.MakeKwOnly
import HandS.IsInst
import HandS.Wide
import HandS.EndBits
import PySem.Challenge.RW_slackstrings_k01_ratios_reckoned
set_option Elab.async false
set_option linter.all false
set_option maxRecDepth 100000
namespace SL

/-! ### sizes -/
/-- below 2 ^ k in size -/
def Bd (k : Nat) (z : Int) : Prop := z.natAbs < 2 ^ k
theorem Bd.mono {a b : Nat} {z : Int} (h : Bd a z) (l : a ≤ b) : Bd b z := Nat.lt_of_lt_of_le h (Nat.pow_le_pow_right (by decide) l)
theorem Bd.mul {a b : Nat} {x y : Int} (h : Bd a x) (h' : Bd b y) : Bd (a + b) (x * y) := by
  unfold Bd
  rw [Int.natAbs_mul, Nat.pow_add]
  exact Nat.mul_lt_mul'' h h'
theorem Bd.add {a : Nat} {x y : Int} (h : Bd a x) (h' : Bd a y) : Bd (a + 1) (x + y) := by
  unfold Bd at *
  rw [Nat.pow_succ]
  have := Int.natAbs_add_le x y
  omega
theorem Bd.neg {a : Nat} {x : Int} (h : Bd a x) : Bd a (-x) := by
  unfold Bd at *
  rw [Int.natAbs_neg]
  exact h
theorem Bd.sub {a : Nat} {x y : Int} (h : Bd a x) (h' : Bd a y) : Bd (a + 1) (x - y) := by
  rw [Int.sub_eq_add_neg]
  exact Bd.add h h'.neg
theorem Bd.of_le {a : Nat} {x y : Int} (h : Bd a y) (l : x.natAbs ≤ y.natAbs) : Bd a x := Nat.lt_of_le_of_lt l h
theorem Bd.small {x : Int} {k : Nat} (hk : 64 ≤ k) (h0 : -1000000000000 ≤ x) (h1 : x ≤ 1000000000000) : Bd k x := by
  refine Bd.mono (a := 64) ?_ hk
  unfold Bd
  have : (2 : Nat) ^ 64 = 18446744073709551616 := by decide
  omega

/-! ### lowest terms -/
/-- the greatest common divisor as an int -/
def gI (n d : Int) : Int := (Int.gcd n d : Int)
theorem gI_pos {n d : Int} (h : d ≠ 0) : 0 < gI n d := by
  unfold gI
  have : 0 < Int.gcd n d := Int.gcd_pos_of_ne_zero_right n h
  omega
theorem gI_nonneg (n d : Int) : 0 ≤ gI n d := by unfold gI; omega
theorem gI_dvd_left (n d : Int) : gI n d ∣ n := Int.gcd_dvd_left ..
theorem gI_dvd_right (n d : Int) : gI n d ∣ d := Int.gcd_dvd_right ..
/-- numerator and denominator in lowest terms -/
def nm (n d : Int) : Int := n / gI n d
def dn (n d : Int) : Int := d / gI n d
theorem nm_mul (n d : Int) : nm n d * gI n d = n := Int.ediv_mul_cancel (gI_dvd_left n d)
theorem dn_mul (n d : Int) : dn n d * gI n d = d := Int.ediv_mul_cancel (gI_dvd_right n d)
theorem dn_pos {n d : Int} (h : 0 < d) : 0 < dn n d := by
  have e := dn_mul n d
  have g := gI_pos (n := n) (d := d) (by omega)
  rcases Int.lt_or_le 0 (dn n d) with q | q
  · exact q
  · exfalso
    have : dn n d * gI n d ≤ 0 := Int.mul_nonpos_of_nonpos_of_nonneg q (by omega)
    omega
theorem nm_dn_gcd {n d : Int} (h : d ≠ 0) : Int.gcd (nm n d) (dn n d) = 1 := by
  have g := gI_pos (n := n) (d := d) h
  unfold nm dn gI at *
  have h0 : 0 < Int.gcd n d := by omega
  rw [Int.gcd_ediv (Int.gcd_dvd_left ..) (Int.gcd_dvd_right ..)]
  simp
  exact Nat.div_self h0
theorem nm_cross (n d : Int) : nm n d * d = n * dn n d := by
  have a := nm_mul n d
  have b := dn_mul n d
  calc nm n d * d = nm n d * (dn n d * gI n d) := by rw [b]
    _ = (nm n d * gI n d) * dn n d := by rw [Int.mul_comm (dn n d), Int.mul_assoc]
    _ = n * dn n d := by rw [a]
/-- lowest terms are unique -/
theorem dvd_of_gcd {a b d : Int} (h : b ∣ a * d) (g : Int.gcd a b = 1) : b ∣ d := by
  rw [← Int.natAbs_dvd_natAbs] at h ⊢
  rw [Int.natAbs_mul] at h
  exact Nat.Coprime.dvd_of_dvd_mul_left (by rw [Nat.coprime_comm]; exact g) h
theorem low_uniq {a b c d : Int} (hb : 0 < b) (hd : 0 < d) (h1 : Int.gcd a b = 1) (h2 : Int.gcd c d = 1) (e : a * d = c * b) : a = c ∧ b = d := by
  have bd : b ∣ d := by
    have : b ∣ a * d := ⟨c, by rw [e, Int.mul_comm]⟩
    exact dvd_of_gcd this h1
  have db : d ∣ b := by
    have : d ∣ c * b := ⟨a, by rw [← e, Int.mul_comm]⟩
    exact dvd_of_gcd this h2
  have ebd : b = d := Int.dvd_antisymm (by omega) (by omega) bd db
  subst ebd
  exact ⟨Int.eq_of_mul_eq_mul_right (by omega) e, rfl⟩
theorem nm_dn_eq {n d m e : Int} (hd : 0 < d) (he : 0 < e) (h : n * e = m * d) : nm n d = nm m e ∧ dn n d = dn m e := by
  refine low_uniq (dn_pos hd) (dn_pos he) (nm_dn_gcd (by omega)) (nm_dn_gcd (by omega)) ?_
  have c1 := nm_cross n d
  have c2 := nm_cross m e
  have : (nm n d * dn m e) * (d * e) = (nm m e * dn n d) * (d * e) := by
    calc (nm n d * dn m e) * (d * e) = (nm n d * d) * (dn m e * e) := by ac_rfl
      _ = (n * dn n d) * (dn m e * e) := by rw [c1]
      _ = (n * e) * (dn n d * dn m e) := by ac_rfl
      _ = (m * d) * (dn n d * dn m e) := by rw [h]
      _ = (m * dn m e) * (dn n d * d) := by ac_rfl
      _ = (nm m e * e) * (dn n d * d) := by rw [c2]
      _ = (nm m e * dn n d) * (d * e) := by ac_rfl
  exact Int.eq_of_mul_eq_mul_right (by have := Int.mul_pos hd he; omega) this
theorem low_self {n d : Int} (hd : 0 < d) (h : Int.gcd n d = 1) : nm n d = n ∧ dn n d = d := by
  unfold nm dn gI
  rw [h]
  simp
theorem nm_natAbs_le (n d : Int) : (nm n d).natAbs ≤ n.natAbs := by
  by_cases h : gI n d = 0
  · unfold nm; rw [h]; simp
  · have e := nm_mul n d
    have : n.natAbs = (nm n d).natAbs * (gI n d).natAbs := by rw [← Int.natAbs_mul, e]
    rw [this]
    exact Nat.le_mul_of_pos_right _ (by omega)
theorem dn_natAbs_le (n d : Int) : (dn n d).natAbs ≤ d.natAbs := by
  by_cases h : gI n d = 0
  · unfold dn; rw [h]; simp
  · have e := dn_mul n d
    have : d.natAbs = (dn n d).natAbs * (gI n d).natAbs := by rw [← Int.natAbs_mul, e]
    rw [this]
    exact Nat.le_mul_of_pos_right _ (by omega)
theorem gI_le {n d : Int} (h : 0 < d) : (gI n d).natAbs ≤ d.natAbs := by
  have : gI n d ≤ d := Int.le_of_dvd h (gI_dvd_right n d)
  have := gI_nonneg n d
  omega
/-- one turn of the gcd's loop -/
theorem gcd_turn {h l : Int} (hh : 0 ≤ h) (hl : 0 < l) : gI l (h.fmod l) = gI h l := by
  unfold gI
  rw [Int.fmod_eq_emod_of_nonneg h (by omega)]
  rw [Int.gcd_comm h l]
  congr 1
  rw [Int.emod_def, Int.mul_comm]
  exact Int.gcd_sub_mul_right_right ..
theorem gI_zero {h : Int} (hh : 0 ≤ h) : gI h 0 = h := by
  unfold gI
  rw [Int.gcd_zero_right]
  omega
theorem gI_abs (n d : Int) : gI (if n < 0 then -n else n) (if d < 0 then -d else d) = gI n d := by
  unfold gI
  split <;> split <;> simp
end SL

set_option Elab.async false
set_option linter.all false
set_option maxRecDepth 100000
set_option maxHeartbeats 4000000
namespace SL
open PySem L2 PySem.Spec PyProof.Rows

section
variable {X : Cx} {pins : List (Addr × Obj)} {σ : L2.St} {H : Hp} {s : Shared} {a C dx : Addr} {fs : List (Str × V)}
theorem inst_of (I : Inv X pins σ H s) (e : H a = some (.ins C dx fs)) : ∃ od, PySem.W.InstAt s.heap a (PySem.W.instObj C dx) C (some od) := by
  obtain ⟨mA, O, _⟩ := ins_get I.hok e
  obtain ⟨od, J, _⟩ := O.look
  exact ⟨od, J⟩
theorem back_of {Q : VK} {u : Value} {s' : Shared} (h : EP X pins σ Q u s') : PySem.W.CmpBack (EP X pins σ Q) u s' := by
  obtain ⟨v, H', I, r, q⟩ := h
  cases v with
  | non => cases (show u = Value.none from r); exact ⟨.non, H', I, rfl, q⟩
  | bl b => cases (show u = Value.bool b from r); exact ⟨.bl b, H', I, rfl, q⟩
  | int i => obtain ⟨t, e⟩ := (show ∃ t, u = Value.int i t from r); subst e; exact ⟨.int i, H', I, ⟨t, rfl⟩, q⟩
  | str x => obtain ⟨t, e⟩ := (show ∃ t, u = Value.str x t from r); subst e; exact ⟨.str x, H', I, ⟨t, rfl⟩, q⟩
  | byt x => obtain ⟨t, e⟩ := (show ∃ t, u = Value.bytes x t from r); subst e; exact ⟨.byt x, H', I, ⟨t, rfl⟩, q⟩
  | flt x => obtain ⟨t, e⟩ := (show ∃ t, u = Value.float x t from r); subst e; exact ⟨.flt x, H', I, ⟨t, rfl⟩, q⟩
  | ref b => cases (show u = Value.ref b from r); exact ⟨.ref b, H', I, rfl, q⟩
  | ty n => cases (show u = Value.type n from r); exact ⟨.ty n, H', I, rfl, q⟩
end

/-- what the class at C must show for an operator of its own -/
structure OwnOp (K : PySem.W.Frag) (C f : Addr) (name : Str) : Prop where
  at_ : PySem.W.findIn K (.ref C) name = some (some (.ref f))
  fn : PySem.W.isFn K (.ref f) = true

section
variable {X : Cx} {CX : CXT} {k : Nat} {C f : Addr} {fd : FuncData} {ps : List Str} {sp : Sp} {E : XK}

/-- own op own -/
def rOwn2 (C : Addr) (sp : Sp) (E : XK) : R2 := fun x y H Q => ∃ a dx fs b dy gs, x = .ref a ∧ y = .ref b ∧ H a = some (.ins C dx fs) ∧ H b = some (.ins C dy gs) ∧ sp [x, y] H Q E
theorem op_own2 {op : Operator} (hc : PySem.W.selfFirst X.K C = true) (o : OwnOp X.K C f (PySem.dunder op.info.2)) (F : FnOk X.prog X.w X.K X.mg X.base CX k f fd ps sp) (hr : Room k X.A) (hb : Binds X.K fd ps []) (hx : Passes CX X E) :
    OpR X (binaryOp op) (rOwn2 C sp E) := by
  intro pins s σ H x y v u Q I rx ry h
  obtain ⟨a, dx, fs, b, dy, gs, rfl, rfl, ha, hb', h⟩ := h
  obtain rfl : v = Value.ref a := rx
  obtain rfl : u = Value.ref b := ry
  obtain ⟨od, J⟩ := inst_of I ha
  obtain ⟨od2, J2⟩ := inst_of I hb'
  obtain ⟨m, Fr⟩ := I.fr
  refine PySem.W.binop_K Fr I.mod.kin J J2.type hc o.at_ o.fn (wpAny_mono (run_fn (us := [.ref a, .ref b]) (vs := [.ref a, .ref b]) F hr hb .nil hx I (.cons rfl (.cons rfl .nil)) h) (fun _ _ q => back_of q) fun _ _ e => e)

/-- own op int -/
def rOwnI (C : Addr) (sp : Sp) (E : XK) : R2 := fun x y H Q => ∃ a dx fs i, x = .ref a ∧ y = .int i ∧ H a = some (.ins C dx fs) ∧ sp [x, y] H Q E
theorem op_ownI {op : Operator} {fo ro rc : Option Value} (hc : PySem.W.selfFirst X.K C = true) (o : OwnOp X.K C f (PySem.dunder op.info.2)) (F : FnOk X.prog X.w X.K X.mg X.base CX k f fd ps sp) (hr : Room k X.A) (hb : Binds X.K fd ps []) (hx : Passes CX X E)
    (hR : PySem.W.findIn X.K (.ref C) (dunderR op.info.2) = some rc) (hp : rc = none ∨ ∃ g : Addr, rc = some (.ref g)) (h1 : PySem.W.findIn X.K (.type "int") (PySem.dunder op.info.2) = some fo) (h2 : PySem.W.findIn X.K (.type "int") (dunderR op.info.2) = some ro)
    (hsub : PySem.W.subIn X.K (.type "int") (.ref C) = some false) : OpR X (binaryOp op) (rOwnI C sp E) := by
  intro pins s σ H x y v u Q I rx ry h
  obtain ⟨a, dx, fs, i, rfl, rfl, ha, h⟩ := h
  obtain rfl : v = Value.ref a := rx
  obtain ⟨t, rfl⟩ := ry
  obtain ⟨od, J⟩ := inst_of I ha
  obtain ⟨m, Fr⟩ := I.fr
  exact PySem.W.ksp_binT (T := "int") Fr I.mod.kin J rfl hc o.at_ o.fn hR hp h1 h2 hsub (wpAny_mono (run_fn (us := [.ref a, .int i t]) (vs := [.ref a, .int i]) F hr hb .nil hx I (.cons rfl (.cons ⟨t, rfl⟩ .nil)) h) (fun _ _ q => back_of q) fun _ _ e => e)

/-- -own -/
def rOwnU (C : Addr) (sp : Sp) (E : XK) : V → Hp → VK → Prop := fun x H Q => ∃ a dx fs, x = .ref a ∧ H a = some (.ins C dx fs) ∧ sp [x] H Q E
theorem un_own (o : OwnOp X.K C f "__neg__") (F : FnOk X.prog X.w X.K X.mg X.base CX k f fd ps sp) (hr : Room k X.A) (hb : Binds X.K fd ps []) (hx : Passes CX X E) : UnR X (unaryOp .USub) (rOwnU C sp E) := by
  intro pins s σ H x v Q I rx h
  obtain ⟨a, dx, fs, rfl, ha, h⟩ := h
  obtain rfl : v = Value.ref a := rx
  obtain ⟨od, J⟩ := inst_of I ha
  obtain ⟨m, Fr⟩ := I.fr
  exact PySem.W.ksp_neg Fr I.mod.kin J o.at_ o.fn (run_fn (us := [.ref a]) (vs := [.ref a]) F hr hb .nil hx I (.cons rfl .nil) h)
theorem UnR.or {f : Value → Sem Value} {r r' : V → Hp → VK → Prop} (h : UnR X f r) (h' : UnR X f r') : UnR X f (fun x H Q => r x H Q ∨ r' x H Q) := by
  intro pins s σ H x v Q I rx q
  rcases q with q | q
  · exact h pins s σ H x v Q I rx q
  · exact h' pins s σ H x v Q I rx q
end

/-! ### an int on the left of an own operator; own == and != -/
theorem int_add_plain (a : Int) (t : Tok) (l C dx : Addr) :
    Meets (Builtin.«int.__add__» ⟨[.int a t, .ref l], []⟩) (fun _ R s => s.heap.get? l = some (PySem.W.instObj C dx) ∧ R (.ok (.ret Value.notImplemented)) s) :=
  .of_wp fun prog w A R s h => by obtain ⟨hp, g, d, tk, os⟩ := s; obtain ⟨hl, h⟩ := h; wp_walk; exact ⟨_, rfl, h⟩
theorem int_sub_plain (a : Int) (t : Tok) (l C dx : Addr) :
    Meets (Builtin.«int.__sub__» ⟨[.int a t, .ref l], []⟩) (fun _ R s => s.heap.get? l = some (PySem.W.instObj C dx) ∧ R (.ok (.ret Value.notImplemented)) s) :=
  .of_wp fun prog w A R s h => by obtain ⟨hp, g, d, tk, os⟩ := s; obtain ⟨hl, h⟩ := h; wp_walk; exact ⟨_, rfl, h⟩
theorem int_mul_plain (a : Int) (t : Tok) (l C dx : Addr) :
    Meets (Builtin.«int.__mul__» ⟨[.int a t, .ref l], []⟩) (fun _ R s => s.heap.get? l = some (PySem.W.instObj C dx) ∧ R (.ok (.ret Value.notImplemented)) s) :=
  .of_wp fun prog w A R s h => by obtain ⟨hp, g, d, tk, os⟩ := s; obtain ⟨hl, h⟩ := h; wp_walk; exact ⟨_, rfl, h⟩
theorem int_eq_plain (a : Int) (t : Tok) (l C dx : Addr) :
    Meets (Builtin.«int.__eq__» ⟨[.int a t, .ref l], []⟩) (fun _ R s => s.heap.get? l = some (PySem.W.instObj C dx) ∧ R (.ok (.ret Value.notImplemented)) s) :=
  .of_wp fun prog w A R s h => by obtain ⟨hp, g, d, tk, os⟩ := s; obtain ⟨hl, h⟩ := h; wp_walk; exact ⟨_, rfl, h⟩

section
open PySem.W
variable {prog : Program} {w : World} {A : Around} {E : Value → Shared → Prop} {s : Shared} {K : Frag} {y C L f f0 dx : Addr} {h₀ : Heap} {m : Str → Option Value} {od : Option Obj}
theorem bin_refl {op : Operator} {i : Int} {t : Tok} {fo ro : Option Value} {Q : Value → Shared → Prop} (F : Fr h₀ L s.heap m) (X₀ : K.In h₀) (J : InstAt s.heap y (instObj C dx) C od) (hc : selfFirst K C = true)
    (hs : findIn K (.ref C) (PySem.dunder op.info.2) = some (some (.ref f0))) (hr : findIn K (.ref C) (dunderR op.info.2) = some (some (.ref f))) (hf : isFn K (.ref f) = true)
    (h1 : findIn K (.type "int") (PySem.dunder op.info.2) = some fo) (h2 : findIn K (.type "int") (dunderR op.info.2) = some ro) (hfill : ((fo.isSome && !isSeqSlot fo) || (ro.isSome && !isSeqSlot ro)) = true) (hsub : subIn K (.ref C) (.type "int") = some false)
    (hdec : ∀ Q' : Option Value → Shared → Prop, Q' none s → wpAny (model prog w) A (tryMethod (.int i t) (PySem.dunder op.info.2) (.ref y)) Q' E s)
    (h : wpAny (model prog w) A (call (.ref f) [.ref y, .int i t]) (PySem.W.CmpBack Q) E s) : wpAny (model prog w) A (binaryOp op (.int i t) (.ref y)) Q E s := by
  have X := X₀.keeps F.keep
  obtain ⟨cd, rest, hcd, hm⟩ := ksp_first hc
  rcases hi : op.info with ⟨sym, nm'⟩
  rw [hi] at hs hr h1 h2 hdec
  dsimp only at hs hr h1 h2 hdec
  have one := ksp_try X J hr hf h
  obtain ⟨hh, g, d, tt, os⟩ := s
  have L1 : Looks (model prog w) hh (typeOf (.int i t)) (.type "int") := Looks.of_pure rfl
  have L2 : Looks (model prog w) hh (typeOf (.ref y)) (.ref C) := J.type
  have L3 : Looks (model prog w) hh (fillsNumberSlot (.ref C) nm') true := fills_K X hcd hm hs
  have L4 : Looks (model prog w) hh (fillsNumberSlot (.type "int") nm') true := by
    have q := ksp_fillsT (M := model prog w) (nm := nm') X h1 h2
    rw [hfill] at q
    exact q
  have L5 : Looks (model prog w) hh (isSubtype (.ref C) (.type "int")) false := looks_subIn X hsub
  have L7 : Looks (model prog w) hh (numberSlotInPython (.type "int") nm') false := Looks.of_pure rfl
  have hne : (Value.type "int" == Value.ref C) = false := Bool.eq_false_iff.mpr fun q => by cases beq_iff_eq.mp q
  simp only [binaryOp, hi]
  refine wpAny_holding (wpAny_bind ?_)
  unfold binaryOp1
  refine wpAny_bind (L1.at (wpAny_bind (L2.at (wpAny_bind (L4.at ?_)))))
  simp only [hne, Bool.false_eq_true, if_false]
  ksp_lk
  refine hdec _ ?_
  ksp_lk
  refine wpAny_mono one (fun r s' hr' => ?_) fun _ _ e => e
  obtain ⟨v, rfl, hq⟩ := hr'
  ksp_lk
  exact hq
end

/-! ### own ==, != ; an int == own -/
section
open PySem.W
variable {prog : Program} {w : World} {A : Around} {E : Value → Shared → Prop} {s : Shared} {K : Frag} {x y C L f dx : Addr} {h₀ : Heap} {m : Str → Option Value} {od : Option Obj} {ox : Obj}
theorem check_own {M : Model} {id owner n : String} {rest : List Value} {Q : Unit → Shared → Prop} (hk : builtinKind id = some .slot) (hs : splitId id = some (owner, n)) (ha : argsOk id ⟨.ref x :: rest, []⟩)
    (X : K.In s.heap) (J : InstAt s.heap x ox C od) (hob : subIn K (.ref C) (.type owner) = some true) (hq : Q () s) : wpAny M A (checkBuiltinCall id ⟨.ref x :: rest, []⟩) Q E s := by
  simp only [checkBuiltinCall, hk, hs]
  refine wpAny_bind ?_
  unfold isInstance
  refine wpAny_bind (m := typeOf (.ref x)) (J.type.here ((looks_subIn X hob).here ?_))
  simp only [Bool.not_true, Bool.false_eq_true, if_false]
  cases hsig : Manifest.signature? id with
  | none => exact wpAny_pure hq
  | some sig =>
    simp only [argsOk, hsig] at ha
    have h2 : Bind.checkArgs id sig ⟨.ref x :: rest, []⟩ = pure () := ha
    show wpAny M A (Bind.checkArgs id sig ⟨.ref x :: rest, []⟩) Q E _
    rw [h2]; exact wpAny_pure hq
theorem ifBound_B {M : Model} {name : Str} {T id : String} {args : List Value} {Q : Option Value → Shared → Prop} (X : K.In s.heap) (I : InstAt s.heap x ox C od) (hs : findIn K (.ref C) name = some (some (.builtin id))) (S : Slot T name id)
    (h : wpAny M A (call (.builtin id) (.ref x :: args)) (fun v => Q (some v)) E s) : wpAny M A (callSpecialIfBound? (.ref x) name args) Q E s := by
  simp only [callSpecialIfBound?, bindSpecialIfBound?]
  refine wpAny_holding (wpAny_bind (wpAny_bind (wpAny_bind (I.type.here ((looks_findIn X hs).here ?_)))))
  simp only [S.bind]
  refine wpAny_bind (wpAny_askSetting (wpAny_ite ?_))
  have fin : wpAny M A (call (.builtin id) ([.ref x] ++ args) >>= fun v => pure (some v)) Q E s := wpAny_bind (wpAny_mono h (fun v s' h' => wpAny_pure h') fun _ _ h' => h')
  split
  · exact wpAny_bind (wpAny_pure (wpAny_pure fin))
  · exact wpAny_tryCatch (wpAny_bind (wpAny_pure (wpAny_pure fin)))
theorem objNe_own {b : Value} (X : K.In s.heap) (I : InstAt s.heap x ox C od) (hs : findIn K (.ref C) "__eq__" = some (some (.ref f))) (hf : isFn K (.ref f) = true) (hu : A.units < cLine) {Q : Fin → Shared → Prop}
    (hcall : wpAny (model prog w) A (call (.ref f) [.ref x, b]) (fun v s' => ∃ k, v = .bool k ∧ Q (.done (.ret (.bool (!k)))) s') E s) :
    wpAny (model prog w) A (Builtin.«object.__ne__» ⟨[.ref x, b], []⟩) Q E s := by
  unfold Builtin.«object.__ne__»
  repeat (first
    | with_reducible refine wpAny_cRoomFor hu ?_
    | (refine wpAny_bind (m := callSpecialIfBound? (.ref x) (Str.ofString "__eq__") [b])
        (ifBound_K X I hs hf (wpAny_mono hcall (fun r s' hr => by
          obtain ⟨b, rfl, hq⟩ := hr
          repeat (first | exact hq | exact wpAny_pure hq | exact wpAny_truthy_bool hq | (refine wpAny_bind (m := truthy (.bool _)) (wpAny_truthy_bool ?_)) | wp_step)) fun _ _ e => e)))
    | wp_step)
theorem cmp_ne_own {b tb : Value} {Q : Value → Shared → Prop} (hu : A.units + 1 < cLine) (X : K.In s.heap) (I : InstAt s.heap x ox C od) (hb : Looks (model prog w) s.heap (typeOf b) tb) (hn : notFirst K C tb = true)
    (hne : findIn K (.ref C) "__ne__" = some (some (.builtin "object.__ne__"))) (hob : subIn K (.ref C) (.type "object") = some true) (hs : findIn K (.ref C) "__eq__" = some (some (.ref f))) (hf : isFn K (.ref f) = true)
    (h : wpAny (model prog w) A.in1 (call (.ref f) [.ref x, b]) (fun v s' => ∃ k, v = .bool k ∧ Q (.bool (!k)) s') E s) : wpAny (model prog w) A (richCompare .NotEq (.ref x) b) Q E s := by
  have one : wpAny (model prog w) A (tryCompare (.ref x) "__ne__" b) (fun r s' => ∃ v, r = some v ∧ Q v s') E s := by
    unfold tryCompare
    refine wpAny_bind (ifBound_B X I hne F.cmp_object.ne (wpAny_call (codeAny_call_builtin F.cmp_object.ne.plain F.cmpEntry_ne (check_own F.cmpKind_ne F.cmpSplit_ne (F.cmpArgs_ne _ _) X I hob ?_))))
    refine objNe_own (A := A.in1) X I hs hf hu (wpAny_mono h (fun v s' hv => ?_) fun _ _ e => e)
    obtain ⟨k, rfl, hq⟩ := hv
    exact ⟨k, rfl, wpAny_pure ⟨_, rfl, hq⟩⟩
  unfold richCompare
  simp only [oneThing_ref]
  refine wpAny_holding (wpAny_bind (wpAny_cRoomFor (Nat.lt_of_succ_lt hu) ?_))
  refine wpAny_bind (I.type.here (wpAny_bind (hb.here ?_)))
  split
  · rename_i q
    have e : subIn K tb (.ref C) = some false := by
      rcases Bool.or_eq_true_iff.mp hn with e | e
      · rw [beq_iff_eq.mp e] at q; simp at q
      · exact beq_iff_eq.mp e
    refine wpAny_bind ((looks_subIn X e).here ?_)
    simp only [Bool.false_eq_true, if_false]
    refine wpAny_bind (wpAny_mono one (fun r s' z => ?_) fun _ _ e => e)
    obtain ⟨v, rfl, hq⟩ := z
    exact wpAny_pure hq
  · refine wpAny_bind (wpAny_pure ?_)
    simp only [Bool.false_eq_true, if_false]
    refine wpAny_bind (wpAny_mono one (fun r s' z => ?_) fun _ _ e => e)
    obtain ⟨v, rfl, hq⟩ := z
    exact wpAny_pure hq
/-- an int == own -/
theorem cmp_eq_refl {i : Int} {t : Tok} {Q : Value → Shared → Prop} (hu : A.units < cLine) (X : K.In s.heap) (I : InstAt s.heap y (instObj C dx) C od) (hsub : subIn K (.ref C) (.type "int") = some false)
    (hs : findIn K (.ref C) "__eq__" = some (some (.ref f))) (hf : isFn K (.ref f) = true)
    (h : wpAny (model prog w) A (call (.ref f) [.ref y, .int i t]) (PySem.W.CmpBack Q) E s) : wpAny (model prog w) A (richCompare .Eq (.int i t) (.ref y)) Q E s := by
  have one : wpAny (model prog w) A (tryCompare (.ref y) "__eq__" (.int i t)) (fun r s' => ∃ v, r = some v ∧ Q v s') E s := by
    unfold tryCompare
    refine wpAny_bind (ifBound_K X I hs hf (wpAny_mono h (fun v s' hv => ?_) fun _ _ e => e))
    cases v <;> first | exact hv.elim | exact wpAny_pure ⟨_, rfl, hv⟩
  unfold richCompare
  rw [show oneThing? .Eq (.int i t) (.ref y) = none from rfl]
  refine wpAny_holding (wpAny_bind (wpAny_cRoomFor hu ?_))
  dsimp only
  refine wpAny_bind ((Looks.of_pure (M := model prog w) (h := s.heap) (t := typeOf (.int i t)) (r := .type "int") rfl).here (wpAny_bind (I.type.here ?_)))
  rw [if_pos (show ((Value.type "int" != Value.ref C) = true) from rfl)]
  refine wpAny_bind ((looks_subIn X hsub).here ?_)
  simp only [Bool.false_eq_true, if_false]
  refine wpAny_bind (wpAny_tryCompare_declines (typeIs_int s i t) F.slot_int_eq (call_meets F.slot_int_eq (typeIs_int s i t) F.entry_int_eq (F.args_int_eq_2 _ _) (int_eq_plain i t y C dx) ⟨I.at_, rfl, ?_⟩))
  simp only [Bool.not_false, if_true]
  refine wpAny_bind (wpAny_mono one (fun r s' z => ?_) fun _ _ e => e)
  obtain ⟨v, rfl, hq⟩ := z
  exact wpAny_pure hq
end

/-! ### the same over the layer -/
section
variable {X : Cx} {CX : CXT} {k : Nat} {C f f0 : Addr} {fd : FuncData} {ps : List Str} {sp : Sp} {E : XK}
/-- what a class must show for int + own -/
structure Refl (K : PySem.W.Frag) (C f0 f : Addr) (nm : String) (fo ro : Option Value) : Prop where
  first : PySem.W.selfFirst K C = true
  fwd : PySem.W.findIn K (.ref C) (PySem.dunder nm) = some (some (.ref f0))
  rev : PySem.W.findIn K (.ref C) (dunderR nm) = some (some (.ref f))
  fn : PySem.W.isFn K (.ref f) = true
  i1 : PySem.W.findIn K (.type "int") (PySem.dunder nm) = some fo
  i2 : PySem.W.findIn K (.type "int") (dunderR nm) = some ro
  fill : ((fo.isSome && !isSeqSlot fo) || (ro.isSome && !isSeqSlot ro)) = true
  sub : PySem.W.subIn K (.ref C) (.type "int") = some false
def rRefl (C : Addr) (sp : Sp) (E : XK) : R2 := fun x y H Q => ∃ i b dy gs, x = .int i ∧ y = .ref b ∧ H b = some (.ins C dy gs) ∧ sp [y, x] H Q E
theorem op_reflG {op : Operator} {id : String} {B : Builtin} {fo ro : Option Value} (R : Refl X.K C f0 f op.info.2 fo ro) (S : Slot "int" (PySem.dunder op.info.2) id) (en : entryFor table id = some B) (ag : ∀ a b : Value, argsOk id ⟨[a, b], []⟩)
    (mt : ∀ (a : Int) (t : Tok) (l C dx : Addr), Meets (B ⟨[.int a t, .ref l], []⟩) (fun _ R s => s.heap.get? l = some (PySem.W.instObj C dx) ∧ R (.ok (.ret Value.notImplemented)) s))
    (F : FnOk X.prog X.w X.K X.mg X.base CX k f fd ps sp) (hr : Room k X.A) (hb : Binds X.K fd ps []) (hx : Passes CX X E) : OpR X (binaryOp op) (rRefl C sp E) := by
  intro pins s σ H x y v u Q I rx ry h
  obtain ⟨i, b, dy, gs, rfl, rfl, hb', h⟩ := h
  obtain ⟨t, rfl⟩ := rx
  obtain rfl : u = Value.ref b := ry
  obtain ⟨od, J⟩ := inst_of I hb'
  obtain ⟨m, Fr⟩ := I.fr
  refine bin_refl (f0 := f0) Fr I.mod.kin J R.first R.fwd R.rev R.fn R.i1 R.i2 R.fill R.sub (fun Q' q => ?_) (wpAny_mono (run_fn (us := [.ref b, .int i t]) (vs := [.ref b, .int i]) F hr hb .nil hx I (.cons rfl (.cons ⟨t, rfl⟩ .nil)) h) (fun _ _ q => back_of q) fun _ _ e => e)
  exact wpAny_tryMethod_declines (typeIs_int s i t) S (call_meets S (typeIs_int s i t) en (ag _ _) (mt i t b C dy) ⟨J.at_, rfl, q⟩)
theorem op_reflAdd {fo ro : Option Value} (R : Refl X.K C f0 f "add" fo ro) (F : FnOk X.prog X.w X.K X.mg X.base CX k f fd ps sp) (hr : Room k X.A) (hb : Binds X.K fd ps []) (hx : Passes CX X E) : OpR X (binaryOp .Add) (rRefl C sp E) :=
  op_reflG (op := .Add) R PySem.F.slot_int_add PySem.F.entry_int_add PySem.F.args_int_add_2 int_add_plain F hr hb hx
theorem op_reflSub {fo ro : Option Value} (R : Refl X.K C f0 f "sub" fo ro) (F : FnOk X.prog X.w X.K X.mg X.base CX k f fd ps sp) (hr : Room k X.A) (hb : Binds X.K fd ps []) (hx : Passes CX X E) : OpR X (binaryOp .Sub) (rRefl C sp E) :=
  op_reflG (op := .Sub) R PySem.F.slot_int_sub PySem.F.entry_int_sub PySem.F.args_int_sub_2 int_sub_plain F hr hb hx
theorem op_reflMul {fo ro : Option Value} (R : Refl X.K C f0 f "mul" fo ro) (F : FnOk X.prog X.w X.K X.mg X.base CX k f fd ps sp) (hr : Room k X.A) (hb : Binds X.K fd ps []) (hx : Passes CX X E) : OpR X (binaryOp .Mult) (rRefl C sp E) :=
  op_reflG (op := .Mult) R PySem.F.slot_int_mul PySem.F.entry_int_mul PySem.F.args_int_mul_2 int_mul_plain F hr hb hx

/-- a def called one C unit deeper (out of a built-in) -/
theorem run_fn1 {pins : List (Addr × Obj)} {σ : L2.St} {H : Hp} {s : Shared} {Q : VK} {us : List Value} {vs : List V} {dvs : List V} {ds : List Value} (F : FnOk X.prog X.w X.K X.mg X.base CX k f fd ps sp) (hr : Room (k + 1) X.A) (hb : Binds X.K fd ps ds) (hd : Vals dvs ds) (hx : Passes CX X E)
    (I : Inv X pins σ H s) (r : Vals vs us) (h : sp (vs ++ dvs) H Q E) : wpAny (model X.prog X.w) X.A.in1 (call (.ref f) us) (EP X pins σ Q) X.xe s := by
  have r2 : Vals (vs ++ dvs) (us ++ ds) := r.append hd
  have hl : (us ++ ds).length = ps.length := by rw [← r2.length]; exact F.len _ _ _ _ h
  refine wpAny_call (codeAny_mono (F.run X.A.in1 X.stack s H ⟨us, []⟩ (us ++ ds) (vs ++ dvs) Q E hr.in1 I.env0.in1 (hb s us I.kIn hl) r2 h) fun r s' hq => ?_)
  cases r with
  | error e => exact hx pins σ H s e s' I hq
  | ok fl =>
    cases fl with
    | ret u => exact I.after hq
    | next => exact False.elim hq
    | brk => exact False.elim hq
    | cont => exact False.elim hq

/-- own == y, y of any known type -/
def rEqOwn (K : PySem.W.Frag) (C : Addr) (sp : Sp) (E : XK) : R2 := fun x y H Q => ∃ a dx fs t, x = .ref a ∧ H a = some (.ins C dx fs) ∧ TyX K H y t ∧ PySem.W.notFirst K C t = true ∧ sp [x, y] H Q E
theorem op_eqOwn (o : OwnOp X.K C f "__eq__") (F : FnOk X.prog X.w X.K X.mg X.base CX k f fd ps sp) (hr : Room k X.A) (hb : Binds X.K fd ps []) (hx : Passes CX X E) : OpR X (compareOp .Eq) (rEqOwn X.K C sp E) := by
  intro pins s σ H x y v u Q I rx ry h
  obtain ⟨a, dx, fs, t, rfl, ha, ty, nf, h⟩ := h
  obtain rfl : v = Value.ref a := rx
  obtain ⟨od, J⟩ := inst_of I ha
  obtain ⟨m, Fr⟩ := I.fr
  obtain ⟨P, Z, p, _⟩ := kit_of I ry ty
  unfold compareOp
  exact PySem.W.cmp_K hr.units0 Fr I.mod.kin J (Z.ty _ _ I.kIn p) nf o.at_ o.fn (wpAny_mono (run_fn (us := [.ref a, u]) (vs := [.ref a, y]) F hr hb .nil hx I (.cons rfl (.cons ry .nil)) h) (fun _ _ q => back_of q) fun _ _ e => e)
/-- own != y by the own ==, which answers a truth -/
def rNeOwn (K : PySem.W.Frag) (C : Addr) (sp : Sp) (E : XK) : R2 := fun x y H Q => ∃ a dx fs t, x = .ref a ∧ H a = some (.ins C dx fs) ∧ TyX K H y t ∧ PySem.W.notFirst K C t = true ∧ sp [x, y] H (fun v H' => ∃ b, v = .bl b ∧ Q (.bl (!b)) H') E
theorem op_neOwn (o : OwnOp X.K C f "__eq__") (hne : PySem.W.findIn X.K (.ref C) "__ne__" = some (some (.builtin "object.__ne__"))) (hob : PySem.W.subIn X.K (.ref C) (.type "object") = some true)
    (F : FnOk X.prog X.w X.K X.mg X.base CX k f fd ps sp) (hr : Room (k + 1) X.A) (hb : Binds X.K fd ps []) (hx : Passes CX X E) : OpR X (compareOp .NotEq) (rNeOwn X.K C sp E) := by
  intro pins s σ H x y v u Q I rx ry h
  obtain ⟨a, dx, fs, t, rfl, ha, ty, nf, h⟩ := h
  obtain rfl : v = Value.ref a := rx
  obtain ⟨od, J⟩ := inst_of I ha
  obtain ⟨P, Z, p, _⟩ := kit_of I ry ty
  unfold compareOp
  refine cmp_ne_own (hu_of hr) I.kIn J (Z.ty _ _ I.kIn p) nf hne hob o.at_ o.fn (wpAny_mono (run_fn1 (us := [.ref a, u]) (vs := [.ref a, y]) F hr hb .nil hx I (.cons rfl (.cons ry .nil)) h) (fun z s' q => ?_) fun _ _ e => e)
  obtain ⟨v, H', I', r, b, rfl, q⟩ := q
  obtain rfl : z = Value.bool b := r
  exact ⟨b, rfl, .bl (!b), H', I', rfl, q⟩
/-- an int == own -/
theorem op_eqRefl (o : OwnOp X.K C f "__eq__") (hsub : PySem.W.subIn X.K (.ref C) (.type "int") = some false) (F : FnOk X.prog X.w X.K X.mg X.base CX k f fd ps sp) (hr : Room k X.A) (hb : Binds X.K fd ps []) (hx : Passes CX X E) : OpR X (compareOp .Eq) (rRefl C sp E) := by
  intro pins s σ H x y v u Q I rx ry h
  obtain ⟨i, b, dy, gs, rfl, rfl, hb', h⟩ := h
  obtain ⟨t, rfl⟩ := rx
  obtain rfl : u = Value.ref b := ry
  obtain ⟨od, J⟩ := inst_of I hb'
  unfold compareOp
  exact cmp_eq_refl hr.units0 I.kIn J hsub o.at_ o.fn (wpAny_mono (run_fn (us := [.ref b, .int i t]) (vs := [.ref b, .int i]) F hr hb .nil hx I (.cons rfl (.cons ⟨t, rfl⟩ .nil)) h) (fun _ _ q => back_of q) fun _ _ e => e)

/-- * of two ints whose product the model takes -/
theorem op_mulM : OpR X (binaryOp .Mult) (rI IntMulOk fun i j => .int (i * j)) := opI fun _ _ _ _ _ _ _ hc q => mul_int q hc
/-- // by any divisor but 0, below 2 ^ 9000 in size -/
def CDivX (_ j : Int) : Prop := j ≠ 0 ∧ j.natAbs.log2 < 9000
theorem op_fdivX : OpR X (binaryOp .FloorDiv) (rI CDivX fun i j => .int (i.fdiv j)) := opI fun i j _ _ _ _ _ hc q => floordiv_int hc.1 q (.inl (PyProof.noPylong_of_log2 hc.2))
end

/-! ### o.m(.., k = v, ..) -/
def tMethN (C : Addr) (m : Str) (n mk : Nat) (sp : Sp) (gV : List V → List V → List V) (E : XK) (ta : TE) (t tk : TA) : TE := fun σ H Q => ta σ H fun x H1 => ∃ a dx fs, x = .ref a ∧ H1 a = some (.ins C dx fs) ∧ fs.lookup m = none ∧
  t σ H1 fun vs H2 => tk σ H2 fun zs H3 => vs.length = n ∧ zs.length = mk ∧ sp (gV (x :: vs) zs) H3 Q E
section
variable {X : Cx} {CX : CXT} {k n : Nat} {f C : Addr} {fd : FuncData} {ps ks : List Str} {sp : Sp} {E : XK} {m : Str} {p pos apos : Pos} {e o : Expr} {es : List Expr} {kws : List Keyword} {ta : TE} {t tk : TA} {g : List Value → List Value → List Value} {gV : List V → List V → List V}
/-- o.m(k = v, ..) -/
theorem pe_methK0 {pl : Sem Bool} (he : PE X o ta) (c : Cls X.K C) (hm : Meth X.K C m f) (F : FnOk X.prog X.w X.K X.mg X.base CX k f fd ps sp) (hr : Room k X.A) (hb : KBn X.K fd ps 1 ks g gV) (hx : Passes CX X E) (hkw : PK X kws tk)
    (hall : (backToKw pos (keywordEach kws X.env)).all (·.1.isSome) = true := by rfl) (hks : (backToKw pos (keywordEach kws X.env)).filterMap (·.1) = ks := by rfl)
    (hpl : ((backTo pos (starEach [] X.env)).any (·.1) || (backToKw pos (keywordEach kws X.env)).any (·.1.isNone)) = false := by rfl)
    (ht : eval (.Call (.Attribute o m apos) [] kws pos) X.env = (do
      let ov ← eval o X.env
      standAt apos.atName
      let (f, first) ← holding [ov] (getMethod ov m pl)
      callWith pos f first (backTo pos (starEach [] X.env)) (backToKw pos (keywordEach kws X.env))) := by rfl) :
    PE X (.Call (.Attribute o m apos) [] kws pos) (tMethN C m 0 ks.length sp gV E ta tNil tk) := by
  refine ⟨fun pins s σ H Q I h => ?_⟩
  refine PySem.W.methodCall_KW (pl := pl) (thn (he.run pins s σ H _ I h) fun u s1 ⟨x, H1, I1, rx, a, dx, fs, ex, ea, l, q⟩ => ?_) ht
  subst ex
  obtain rfl : u = Value.ref a := rx
  refine getmeth_ok I1 ea c hm l ?_
  refine PySem.W.callWith_KW0 (first := [.ref a]) (h₀ := X.base) I.ok.mod.kin hm.kp hall ?_ hpl
  refine thn (hkw.run pos pins s1 σ H1 _ I1 q) fun ws s2 ⟨zs, H2, I2, rz, l1, l2, q2⟩ => ⟨I2.kIn, ?_⟩
  rw [hks]
  exact run_fnN (us := [.ref a]) (vs := [.ref a]) F hr hb hx I2 (.cons rfl .nil) rz rfl l2 q2
/-- o.m(e, .., k = v, ..) -/
theorem pe_methK {pl : Sem Bool} (he : PE X o ta) (c : Cls X.K C) (hm : Meth X.K C m f) (F : FnOk X.prog X.w X.K X.mg X.base CX k f fd ps sp) (hr : Room k X.A) (hb : KBn X.K fd ps (n + 1) ks g gV) (hx : Passes CX X E) (ha : PA X (e :: es) t) (hkw : PK X kws tk)
    (hall : (backToKw pos (keywordEach kws X.env)).all (·.1.isSome) = true := by rfl) (hks : (backToKw pos (keywordEach kws X.env)).filterMap (·.1) = ks := by rfl)
    (hst : starEach (e :: es) X.env = (false, eval e X.env) :: starEach es X.env := by rfl)
    (hpl : ((backTo pos (starEach (e :: es) X.env)).any (·.1) || (backToKw pos (keywordEach kws X.env)).any (·.1.isNone)) = false := by rfl)
    (ht : eval (.Call (.Attribute o m apos) (e :: es) kws pos) X.env = (do
      let ov ← eval o X.env
      standAt apos.atName
      let (f, first) ← holding [ov] (getMethod ov m pl)
      callWith pos f first (backTo pos (starEach (e :: es) X.env)) (backToKw pos (keywordEach kws X.env))) := by rfl) :
    PE X (.Call (.Attribute o m apos) (e :: es) kws pos) (tMethN C m n ks.length sp gV E ta t tk) := by
  refine ⟨fun pins s σ H Q I h => ?_⟩
  refine PySem.W.methodCall_KW (pl := pl) (thn (he.run pins s σ H _ I h) fun u s1 ⟨x, H1, I1, rx, a, dx, fs, ex, ea, l, q⟩ => ?_) ht
  subst ex
  obtain rfl : u = Value.ref a := rx
  refine getmeth_ok I1 ea c hm l ?_
  refine PySem.W.callWith_KW (first := [.ref a]) (h₀ := X.base) I.ok.mod.kin hm.kp hall (thn (ha.run pos pins s1 σ H1 _ I1 q) fun us s2 ⟨vs, H2, I2, r, q2⟩ => ?_) hpl hst
  refine thn (hkw.run pos pins s2 σ H2 _ I2 q2) fun ws s3 ⟨zs, H3, I3, rz, l1, l2, q3⟩ => ⟨I3.kIn, ?_⟩
  rw [hks]
  exact run_fnN (us := .ref a :: us) (vs := .ref a :: vs) F hr hb hx I3 (.cons rfl r) rz (congrArg Nat.succ l1) l2 q3
end
end SL

set_option Elab.async false
set_option linter.all false
set_option maxRecDepth 100000
set_option maxHeartbeats 4000000
namespace SL
open PySem L2 PySem.Spec PyProof.Rows

/-! ### steps of a reading: each lemma is a rule from the goal's head -/
section go
variable {K : PySem.W.Frag} {D : Ends} {σ : L2.St} {H : Hp} {Q : VK} {te ta tb tv : TE} {t t1 t2 : TS} {tt uu : TT} {tA : TA} {tr : TA} {v x y : V} {i j : Nat} {r : R2} {g : TG} {E : XK}
theorem go_seq (h : t1 { D with nx := t2 D } σ H) : tSeq t1 t2 D σ H := h
theorem go_next (h : D.nx σ H) : tNext D σ H := h
theorem go_asg (h : te σ H fun x H1 => g x σ H1 D.nx) : tAsg te g D σ H := h
theorem go_gname {Q : L2.St → Hp → Prop} (h : Q (σ.set i (some v)) H) : gName i v σ H Q := h
theorem go_ret (h : te σ H D.rt) : tRet te D σ H := h
theorem go_retN (h : D.rt .non H) : tRetN D σ H := h
theorem go_drop (h : te σ H fun _ H1 => D.nx σ H1) : tDrop te D σ H := h
theorem go_ifs {c : TT} (h : c σ H fun b H1 => if b = true then t1 D σ H1 else t2 D σ H1) : tIfS c t1 t2 D σ H := h
theorem go_var (e : σ[i]? = some (some v)) (h : Q v H) : tVar i σ H Q := ⟨v, e, h⟩
theorem go_c (h : Q v H) : tC v σ H Q := h
theorem go_op (h : ta σ H fun x H1 => tb σ H1 fun y H2 => r x y H2 Q) : tOp r ta tb σ H Q := h
theorem go_un {r : V → Hp → VK → Prop} (h : ta σ H fun x H1 => r x H1 Q) : tUn r ta σ H Q := h
theorem go_I0 {g : Int → Int → V} {i j : Int} (h : Q (g i j) H) : rI0 g (.int i) (.int j) H Q := ⟨i, j, rfl, rfl, h⟩
theorem go_I {C : Int → Int → Prop} {g : Int → Int → V} {i j : Int} (c : C i j) (h : Q (g i j) H) : rI C g (.int i) (.int j) H Q := ⟨i, j, rfl, rfl, c, h⟩
theorem go_U {g : Int → V} {i : Int} (h : Q (g i) H) : rU g (.int i) H Q := ⟨i, rfl, h⟩
theorem go_test {Q : Bool → Hp → Prop} (h : te σ H fun x H' => ∃ k, x = .bl k ∧ Q k H') : tTest te σ H Q := h
theorem go_tb {Q : Bool → Hp → Prop} (h : te σ H fun x H' => ∃ k, x = .bl k ∧ Q k H') : tB te σ H Q := h
theorem go_bl {b : Bool} {R : Bool → Prop} (h : R b) : ∃ k, V.bl b = .bl k ∧ R k := ⟨b, rfl, h⟩
theorem go_eqI {i j : Int} (h : Q (.bl (decide (i = j))) H) : rEq (.int i) (.int j) H Q := by
  refine ⟨rfl, ?_⟩
  rw [show decide (V.int i = V.int j) = decide (i = j) by rw [dec_int]; by_cases e : i = j <;> simp [e]]
  exact h
theorem go_neI {i j : Int} (h : Q (.bl (!decide (i = j))) H) : rNe (.int i) (.int j) H Q := by
  refine ⟨rfl, ?_⟩
  rw [show decide (V.int i = V.int j) = decide (i = j) by rw [dec_int]; by_cases e : i = j <;> simp [e]]
  exact h
theorem go_eqB {i j : Bool} (h : Q (.bl (decide (i = j))) H) : rEq (.bl i) (.bl j) H Q := by
  refine ⟨rfl, ?_⟩
  rw [show decide (V.bl i = V.bl j) = decide (i = j) by rw [dec_bl]; cases i <;> cases j <;> rfl]
  exact h
theorem go_neB {i j : Bool} (h : Q (.bl (!decide (i = j))) H) : rNe (.bl i) (.bl j) H Q := by
  refine ⟨rfl, ?_⟩
  rw [show decide (V.bl i = V.bl j) = decide (i = j) by rw [dec_bl]; cases i <;> cases j <;> rfl]
  exact h
theorem go_eqS {i j : Str} (h : Q (.bl (decide (i = j))) H) : rEq (.str i) (.str j) H Q := by
  refine ⟨rfl, ?_⟩
  rw [show decide (V.str i = V.str j) = decide (i = j) by by_cases e : i = j <;> simp [e]]
  exact h
theorem go_neS {i j : Str} (h : Q (.bl (!decide (i = j))) H) : rNe (.str i) (.str j) H Q := by
  refine ⟨rfl, ?_⟩
  rw [show decide (V.str i = V.str j) = decide (i = j) by by_cases e : i = j <;> simp [e]]
  exact h
theorem go_and {Q : Bool → Hp → Prop} (h : tt σ H fun c H1 => if c = true then uu σ H1 Q else Q false H1) : tAnd tt uu σ H Q := h
theorem go_or {Q : Bool → Hp → Prop} (h : tt σ H fun c H1 => if c = true then Q true H1 else uu σ H1 Q) : tOr tt uu σ H Q := h
theorem go_not {Q : Bool → Hp → Prop} (h : tt σ H fun c H1 => Q (!c) H1) : tNot tt σ H Q := h
theorem go_andV (h : ta σ H fun x H1 => ∃ c, x = .bl c ∧ if c = true then tb σ H1 Q else Q (.bl false) H1) : tAndV ta tb σ H Q := h
theorem go_orV (h : ta σ H fun x H1 => ∃ c, x = .bl c ∧ if c = true then Q (.bl true) H1 else tb σ H1 Q) : tOrV ta tb σ H Q := h
theorem go_notV (h : ta σ H fun x H1 => ∃ c, x = .bl c ∧ Q (.bl (!c)) H1) : tNotV ta σ H Q := h
theorem go_if (h : tt σ H fun c H1 => if c = true then ta σ H1 Q else tb σ H1 Q) : tIf tt ta tb σ H Q := h
theorem go_T {A B : Prop} (h : A) : if true = true then A else B := iteT h
theorem go_F {A B : Prop} (h : B) : if false = true then A else B := iteF h
theorem go_nT {A B : Prop} (h : B) : if (!true) = true then A else B := iteF h
theorem go_nF {A B : Prop} (h : A) : if (!false) = true then A else B := iteT h
theorem go_d {p A B : Prop} [Decidable p] (h1 : p → A) (h2 : ¬ p → B) : if decide p = true then A else B := by
  by_cases h : p
  · rw [if_pos (decide_eq_true h)]; exact h1 h
  · rw [if_neg (by simp [h])]; exact h2 h
theorem go_dn {p A B : Prop} [Decidable p] (h1 : ¬ p → A) (h2 : p → B) : if (!decide p) = true then A else B := by
  by_cases h : p
  · rw [if_neg (by simp [h])]; exact h2 h
  · rw [if_pos (by simp [h])]; exact h1 h
theorem go_dT {p A B : Prop} [Decidable p] (hp : p) (h : A) : if decide p = true then A else B := by rw [if_pos (decide_eq_true hp)]; exact h
theorem go_dF {p A B : Prop} [Decidable p] (hp : ¬ p) (h : B) : if decide p = true then A else B := by rw [if_neg (by simp [hp])]; exact h
theorem go_dnT {p A B : Prop} [Decidable p] (hp : p) (h : B) : if (!decide p) = true then A else B := by rw [if_neg (by simp [hp])]; exact h
theorem go_dnF {p A B : Prop} [Decidable p] (hp : ¬ p) (h : A) : if (!decide p) = true then A else B := by rw [if_pos (by simp [hp])]; exact h
theorem go_b {b : Bool} {A B : Prop} (h1 : b = true → A) (h2 : b = false → B) : if b = true then A else B := by
  cases b with
  | true => exact iteT (h1 rfl)
  | false => exact iteF (h2 rfl)
theorem go_join {P : V → Prop} {b : Bool} (h1 : b = true → ∀ R : VK, (∀ v, P v → R v H) → ta σ H R) (h2 : b = false → ∀ R : VK, (∀ v, P v → R v H) → tb σ H R) (k : ∀ v, P v → Q v H) : if b = true then ta σ H Q else tb σ H Q := by
  cases b with
  | true => exact iteT (h1 rfl Q k)
  | false => exact iteF (h2 rfl Q k)
theorem go_nn {b : Bool} {A B : Prop} (h : if b = true then A else B) : if (!(!b)) = true then A else B := by rw [Bool.not_not]; exact h
theorem go_nil {Q : List V → Hp → Prop} (h : Q [] H) : tNil σ H Q := h
theorem go_cons {Q : List V → Hp → Prop} (h : te σ H fun x H1 => tr σ H1 fun xs H2 => Q (x :: xs) H2) : tCons te tr σ H Q := h
theorem go_call {sp : Sp} {dvs : List V} (h : tA σ H fun vs H1 => sp (vs ++ dvs) H1 Q E) : tCall sp dvs E tA σ H Q := h
theorem go_cb {r : List V → Hp → VK → Prop} (h : tA σ H fun vs H1 => r vs H1 Q) : tCB r tA σ H Q := h
theorem go_par {i j : Nat} (h : tA σ H fun vs H1 => ∃ v w, vs = [v, w] ∧ D.nx ((σ.set i (some v)).set j (some w)) H1) : tPar i j tA D σ H := h
theorem go_pair {a b : V} {P : V → V → Prop} (h : P a b) : ∃ v w, [a, b] = [v, w] ∧ P v w := ⟨a, b, rfl, h⟩
end go

/-! ### heaps that grow -/
theorem Same.at {H H' : Hp} {a : Addr} {o : HO} (e : L2.Same H H') (h : H a = some o) : H' a = some o := e a o h
theorem Same.new {H : Hp} {p : Addr} {o : HO} (h : H p = none) : L2.Same H (upd H p o) := fun a u e => by rw [upd_ne (ne_of_none e h)]; exact e
theorem Same.new' {H H' : Hp} {p : Addr} {o : HO} (h : H p = none) (q : upd H p o = H') : L2.Same H H' := q ▸ Same.new h
/-- an object that H does not know may change -/
theorem Same.mut {H H' : Hp} {p : Addr} {o : HO} (e : L2.Same H H') (h : H p = none) : L2.Same H (upd H' p o) := fun a u ha => by
  rw [upd_ne (ne_of_none ha h)]
  exact e a u ha
theorem at_new {H H' : Hp} {p : Addr} {o : HO} (q : upd H p o = H') : H' p = some o := q ▸ upd_same
theorem szL {n : Nat} (h : n ≤ 1000) : n ≤ sizeLine := Nat.le_of_lt (small1000 h)
/-- a new object at a free place -/
theorem new_ok {H : Hp} {o : HO} {R : Addr → Hp → Prop} (h : ∀ p H', H p = none → L2.Same H H' → H' p = some o → R p H') : ∀ p, H p = none → R p (upd H p o) := fun p hp => h p _ hp (Same.new hp) upd_same
section go2
variable {K : PySem.W.Frag} {D : Ends} {σ : L2.St} {H : Hp} {Q : VK} {te ta tb tv : TE} {tA : TA} {v x y : V} {i j : Nat} {E : XK}
theorem go_tup (h : tA σ H fun xs H1 => xs.length ≤ sizeLine ∧ ∀ p, H1 p = none → Q (.ref p) (upd H1 p (.tup xs))) : tTup tA σ H Q := h
theorem go_lst (h : tA σ H fun xs H1 => xs.length ≤ sizeLine ∧ ∀ p, H1 p = none → Q (.ref p) (upd H1 p (.lst xs))) : tLst tA σ H Q := h
theorem go_newT {xs : List V} (hl : xs.length ≤ 1000) (h : ∀ p H', H p = none → L2.Same H H' → H' p = some (.tup xs) → Q (.ref p) H') : xs.length ≤ sizeLine ∧ ∀ p, H p = none → Q (.ref p) (upd H p (.tup xs)) :=
  ⟨Nat.le_of_lt (small1000 hl), new_ok (R := fun p H' => Q (.ref p) H') h⟩
theorem go_newL {xs : List V} (hl : xs.length ≤ 1000) (h : ∀ p H', H p = none → L2.Same H H' → H' p = some (.lst xs) → Q (.ref p) H') : xs.length ≤ sizeLine ∧ ∀ p, H p = none → Q (.ref p) (upd H p (.lst xs)) :=
  ⟨Nat.le_of_lt (small1000 hl), new_ok (R := fun p H' => Q (.ref p) H') h⟩
theorem go_for {wi : TI} {g : TG} {tb : TS} (h : wi σ H fun J H1 => ∃ W : Nat → Nat → L2.St → Hp → Prop, (∃ m, W 0 m σ H1) ∧ ∀ i m σ H, W i m σ H →
  (J.stop i H ∧ D.nx σ H) ∨ (J.go i H ∧ ∃ N : L2.St → Hp → Prop, (∀ σ' H', N σ' H' → ∃ m', m' < m ∧ W (i + 1) m' σ' H') ∧ ∀ x H', J.yld i H x H' → g x σ H' fun σ2 H2 => tb { D with nx := N, ct := N, bk := D.nx } σ2 H2)) : tFor wi g tb D σ H := h
theorem go_iList {tl : TE} {R : It → Hp → Prop} (h : tl σ H fun x H1 => ∃ a, x = .ref a ∧ (∃ xs, SqL K H1 a xs) ∧ R (Itl K a) H1) : iList K tl σ H R := h
theorem go_iTup {tl : TE} {R : It → Hp → Prop} (h : tl σ H fun x H1 => ∃ a, x = .ref a ∧ (∃ xs, SqT K H1 a xs) ∧ R (Itt K a) H1) : iTup K tl σ H R := h
theorem go_iRng1 {R : It → Hp → Prop} (h : tA σ H fun vs H1 => ∃ j : Int, vs = [.int j] ∧ -(2 ^ 62) ≤ j ∧ j < 2 ^ 62 ∧ R (Itr 0 j.toNat) H1) : iRng1 tA σ H R := h
theorem go_iRng2 {R : It → Hp → Prop} (h : tA σ H fun vs H1 => ∃ i j : Int, vs = [.int i, .int j] ∧ (-(2 ^ 62) ≤ i ∧ i < 2 ^ 62 ∧ -(2 ^ 62) ≤ j ∧ j < 2 ^ 62) ∧ R (Itr i (j - i).toNat) H1) : iRng2 tA σ H R := h
theorem go_lc {wi : TI} {g : TG} {tt : TT} {vs : List Nat} (h : wi σ H fun J H1 => ∀ D, H1 D = none → ∃ W : Nat → Nat → Hp → Prop, (∃ m, W 0 m (upd H1 D (.lst []))) ∧ ∀ i m H, W i m H →
  (J.stop i H ∧ Q (.ref D) H) ∨ (J.go i H ∧ ∃ Nx : Hp → Prop, (∀ H', Nx H' → ∃ m', m' < m ∧ W (i + 1) m' H') ∧ ∀ x H', J.yld i H x H' → g x (wipe σ vs) H' fun σ2 H2 => wipe σ2 vs = wipe σ vs ∧ tt σ2 H2 fun b H3 =>
    if b = true then te σ2 H3 fun y H4 => ∃ acc, H4 D = some (.lst acc) ∧ acc.length < sizeLine ∧ Nx (upd H4 D (.lst (acc ++ [y]))) else Nx H3)) : tLc wi g tt te vs σ H Q := h
theorem go_yes {Q : Bool → Hp → Prop} (h : Q true H) : tYes σ H Q := h
/-- o.f of a class that is told -/
def tFldC (C : Addr) (ta : TE) (f : Str) : TE := fun σ H Q => ta σ H fun x H1 => ∃ a dx fs v, x = .ref a ∧ H1 a = some (.ins C dx fs) ∧ fs.lookup f = some v ∧ Q v H1
theorem pe_fldC {X : Cx} {C : Addr} {e : Expr} {f : Str} {pos : Pos} (c : Cls X.K C) (n : NoAttr X.K C f) (he : PE X e ta) (hb : attributeBase e f X.env (eval e X.env) = eval e X.env := by rfl) : PE X (.Attribute e f pos) (tFldC C ta f) :=
  ⟨fun pins s σ H Q I h => attr_of hb (thn (he.run pins s σ H _ I h) fun u s1 ⟨x, H1, I1, rx, a, dx, fs, v, ex, ea, l, q⟩ => by
    subst ex
    obtain rfl : u = Value.ref a := rx
    exact getattr_ok I1 ea c n l fun w s2 I2 r2 => ⟨v, H1, I2, r2, q⟩)⟩
/-- o.f = e of a class that is told -/
def sFldC (C : Addr) (ta tv : TE) (f : Str) : TS := fun D σ H => tv σ H fun y H1 => ta σ H1 fun x H2 => ∃ a dx fs, x = .ref a ∧ H2 a = some (.ins C dx fs) ∧ fs.length < 1000 ∧ D.nx σ (upd H2 a (.ins C dx (putF f y fs)))
theorem ps_fldC {X : Cx} {C : Addr} {o value : Expr} {f : Str} {pos pos' : Pos} (c : Cls X.K C) (n : NoAttr X.K C f) (ha : PE X o ta) (hv : PE X value tv) (hs : swapsWith value (some (.Attribute o f pos')) pos.line X.env = pure false := by rfl) :
    PS X (.Assign [.Attribute o f pos'] value pos) (sFldC C ta tv f) := by
  refine ⟨fun pins s σ H D I h => ?_⟩
  refine plainObj_wpAny_Assign_Attribute (thn (hv.run pins s σ H _ I h) fun u s1 ⟨y, H1, I1, ry, q⟩ => thn (ha.run pins s1 σ H1 _ I1 q) fun ov s2 ⟨x, H2, I2, rx, a, dx, fs, ex, ea, l, q2⟩ => ?_) hs
  subst ex
  obtain rfl : ov = Value.ref a := rx
  exact setattr_ok I2 ea c n l ry fun s3 I3 => ⟨σ, _, I3, q2⟩
theorem go_fldC {C : Addr} {f : Str} (h : ta σ H fun x H1 => ∃ a dx fs v, x = .ref a ∧ H1 a = some (.ins C dx fs) ∧ fs.lookup f = some v ∧ Q v H1) : tFldC C ta f σ H Q := h
theorem go_fldE {C p dx : Addr} {fs : List (Str × V)} {f : Str} {v : V} (hp : H p = some (.ins C dx fs)) (hl : fs.lookup f = some v) {R : V → Prop} (h : R v) : ∃ a dx fs v, V.ref p = .ref a ∧ H a = some (.ins C dx fs) ∧ fs.lookup f = some v ∧ R v := ⟨p, dx, fs, v, rfl, hp, hl, h⟩
theorem go_sfld {C : Addr} {f : Str} (h : tv σ H fun y H1 => ta σ H1 fun x H2 => ∃ a dx fs, x = .ref a ∧ H2 a = some (.ins C dx fs) ∧ fs.length < 1000 ∧ D.nx σ (upd H2 a (.ins C dx (putF f y fs)))) : sFldC C ta tv f D σ H := h
theorem go_sfldE {C p dx : Addr} {fs : List (Str × V)} {f : Str} {y : V} {R : Hp → Prop} (hp : H p = some (.ins C dx fs)) (hl : fs.length < 1000) (h : R (upd H p (.ins C dx (putF f y fs)))) : ∃ a dx fs, V.ref p = .ref a ∧ H a = some (.ins C dx fs) ∧ fs.length < 1000 ∧ R (upd H a (.ins C dx (putF f y fs))) := ⟨p, dx, fs, rfl, hp, hl, h⟩
theorem go_ixL {p : Addr} {xs : List V} {i : Int} (hp : SqL K H p xs) (ha : atI xs i = some v) (h : Q v H) : rIxL K (.ref p) (.int i) H Q := ⟨p, xs, i, v, rfl, rfl, hp, ha, h⟩
theorem go_ixT {p : Addr} {xs : List V} {i : Int} (hp : SqT K H p xs) (ha : atI xs i = some v) (h : Q v H) : rIxT K (.ref p) (.int i) H Q := ⟨p, xs, i, v, rfl, rfl, hp, ha, h⟩
theorem go_setL {v : V} {p : Addr} {xs : List V} {k : Int} {j : Nat} {R : Hp → Prop} (hp : H p = some (.lst xs)) (hj : ixN xs.length k = some j) (h : R (upd H p (.lst (xs.set j v)))) : rSetL (.ref p) (.int k) v H R := ⟨p, xs, k, j, rfl, rfl, hp, hj, h⟩
theorem go_sub {to ti : TE} {t : TSet} {Q : L2.St → Hp → Prop} (h : to σ H fun o H1 => ti σ H1 fun i H2 => t o i v H2 fun H3 => Q σ H3) : gSub to ti t v σ H Q := h
theorem go_sl {r : V → Option Int → Option Int → Hp → VK → Prop} {tl th : TO} (h : te σ H fun x H1 => tl σ H1 fun l H2 => th σ H2 fun u H3 => r x l u H3 Q) : tSl r te tl th σ H Q := h
theorem go_noPart {Q : Option Int → Hp → Prop} (h : Q none H) : tNoPart σ H Q := h
theorem go_part {Q : Option Int → Hp → Prop} (h : te σ H fun x H1 => ∃ i, x = .int i ∧ Q (some i) H1) : tPart te σ H Q := h
theorem go_partE {i : Int} {R : Int → Prop} (h : R i) : ∃ j, V.int i = .int j ∧ R j := ⟨i, rfl, h⟩
theorem go_slL {p : Addr} {xs : List V} {lo hi : Option Int} (hp : SqL K H p xs) (h : ∀ q H', H q = none → L2.Same H H' → H' q = some (.lst (cutV xs lo hi)) → Q (.ref q) H') : rSlL K (.ref p) lo hi H Q := ⟨p, xs, rfl, hp, new_ok (R := fun p H' => Q (.ref p) H') h⟩
theorem go_cat {p q : Addr} {xs ys : List V} (hp : H p = some (.lst xs)) (hq : H q = some (.lst ys)) (hl : xs.length + ys.length ≤ 1000) (h : ∀ r H', H r = none → L2.Same H H' → H' r = some (.lst (xs ++ ys)) → Q (.ref r) H') : rCat (.ref p) (.ref q) H Q :=
  ⟨p, q, xs, ys, rfl, rfl, hp, hq, Nat.le_of_lt (small1000 hl), new_ok (R := fun p H' => Q (.ref p) H') h⟩
theorem go_rep {p : Addr} {k : Int} {xs : List V} (hp : H p = some (.lst xs)) (h0 : 0 ≤ k) (h1 : k ≤ 1000) (hl : xs.length * k.toNat ≤ 1000) (h : ∀ r H', H r = none → L2.Same H H' → H' r = some (.lst (List.replicate k.toNat xs).flatten) → Q (.ref r) H') : rRep (.ref p) (.int k) H Q :=
  ⟨p, k, xs, rfl, rfl, hp, by omega, by omega, Nat.le_of_lt (small1000 hl), new_ok (R := fun p H' => Q (.ref p) H') h⟩
/-- built-ins by names -/
def rLen (K : PySem.W.Frag) : List V → Hp → VK → Prop := fun xs H Q => ∃ x n, xs = [x] ∧ LenV K x H n ∧ Q (.int n) H
def rAbs : List V → Hp → VK → Prop := fun xs H Q => ∃ i, xs = [.int i] ∧ Q (.int (if i < 0 then -i else i)) H
def rMax2 : List V → Hp → VK → Prop := fun xs H Q => ∃ i j, xs = [.int i, .int j] ∧ Q (.int (if j > i then j else i)) H
def rMin2 : List V → Hp → VK → Prop := fun xs H Q => ∃ i j, xs = [.int i, .int j] ∧ Q (.int (if j < i then j else i)) H
def rInt1 : List V → Hp → VK → Prop := fun xs H Q => (∃ i, xs = [.int i] ∧ Q (.int i) H) ∨ ∃ k, xs = [.bl k] ∧ Q (.int (if k then 1 else 0)) H
theorem call_lenX {X : Cx} : CallR X (.builtin "len") (rLen X.K) := call_len
theorem call_absX {X : Cx} : CallR X (.builtin "abs") rAbs := call_abs
theorem call_max2X {X : Cx} (hc : X.calm = true) : CallR X (.builtin "max") rMax2 := call_max2 hc
theorem call_min2X {X : Cx} (hc : X.calm = true) : CallR X (.builtin "min") rMin2 := call_min2 hc
theorem call_int1X {X : Cx} : CallR X (.type "int") rInt1 := call_int1
theorem go_abs {i : Int} (h : Q (.int (if i < 0 then -i else i)) H) : rAbs [.int i] H Q := ⟨i, rfl, h⟩
theorem go_max2 {i j : Int} (h : Q (.int (if j > i then j else i)) H) : rMax2 [.int i, .int j] H Q := ⟨i, j, rfl, h⟩
theorem go_min2 {i j : Int} (h : Q (.int (if j < i then j else i)) H) : rMin2 [.int i, .int j] H Q := ⟨i, j, rfl, h⟩
theorem go_int {i : Int} (h : Q (.int i) H) : rInt1 [.int i] H Q := .inl ⟨i, rfl, h⟩
theorem go_intB {k : Bool} (h : Q (.int (if k then 1 else 0)) H) : rInt1 [.bl k] H Q := .inr ⟨k, rfl, h⟩
theorem go_lenL {p : Addr} {xs : List V} (hp : SqL K H p xs) (h : Q (.int xs.length) H) : rLen K [.ref p] H Q := ⟨_, xs.length, rfl, .inl ⟨xs, hp, rfl⟩, h⟩
theorem go_lenT {p : Addr} {xs : List V} (hp : SqT K H p xs) (h : Q (.int xs.length) H) : rLen K [.ref p] H Q := ⟨_, xs.length, rfl, .inr ⟨xs, hp, rfl⟩, h⟩
theorem go_lenS {x : Str} (hp : x.length ≤ sizeLine) (h : Q (.int x.length) H) : rLen K [.str x] H Q := ⟨_, x.length, rfl, ⟨hp, rfl⟩, h⟩
theorem go_all {p : Addr} {bs : List Bool} (hp : SqL K H p (bs.map V.bl)) (h : Q (.bl (bs.all id)) H) : rAll K [.ref p] H Q := ⟨p, bs, rfl, hp, h⟩
theorem go_any {p : Addr} {bs : List Bool} (hp : SqL K H p (bs.map V.bl)) (h : Q (.bl (bs.any id)) H) : rAny K [.ref p] H Q := ⟨p, bs, rfl, hp, h⟩
theorem go_bm {T : String} {r : V → List V → Hp → VK → Prop} (h : ta σ H fun x H1 => tyV K T x H1 ∧ tA σ H1 fun xs H2 => r x xs H2 Q) : tBM K T r ta tA σ H Q := h
theorem go_app {l : Addr} {xs : List V} {y : V} (hl : H l = some (.lst xs)) (hz : xs.length < 1000) (h : Q .non (upd H l (.lst (xs ++ [y])))) : rAppend (.ref l) [y] H Q := ⟨l, xs, y, rfl, rfl, hl, small1000 (Nat.le_of_lt hz), h⟩
theorem ty_list {p : Addr} {xs : List V} (h : SqL K H p xs) : tyV K "list" (.ref p) H := .inl ⟨rfl, xs, h⟩
theorem go_meth {C : Addr} {m : Str} {sp : Sp} {dvs : List V} (h : ta σ H fun x H1 => ∃ a dx fs, x = .ref a ∧ H1 a = some (.ins C dx fs) ∧ fs.lookup m = none ∧ tA σ H1 fun vs H2 => sp (x :: (vs ++ dvs)) H2 Q E) : tMeth C m sp dvs E ta tA σ H Q := h
theorem go_methE {C p dx : Addr} {fs : List (Str × V)} {m : Str} {R : Prop} (hp : H p = some (.ins C dx fs)) (hl : fs.lookup m = none) (h : R) : ∃ a dx fs, V.ref p = .ref a ∧ H a = some (.ins C dx fs) ∧ fs.lookup m = none ∧ R := ⟨p, dx, fs, rfl, hp, hl, h⟩
theorem go_methN {C : Addr} {m : Str} {n mk : Nat} {sp : Sp} {gV : List V → List V → List V} {tk : TA} (h : ta σ H fun x H1 => ∃ a dx fs, x = .ref a ∧ H1 a = some (.ins C dx fs) ∧ fs.lookup m = none ∧ tA σ H1 fun vs H2 => tk σ H2 fun zs H3 => vs.length = n ∧ zs.length = mk ∧ sp (gV (x :: vs) zs) H3 Q E) : tMethN C m n mk sp gV E ta tA tk σ H Q := h
theorem go_make {C : Addr} {sp : Sp} {dvs : List V} (h : tA σ H fun vs H1 => ∀ x dx, H1 x = none → H1 dx = none → dx ≠ x → sp (.ref x :: (vs ++ dvs)) (upd (upd H1 dx (.own x)) x (.ins C dx [])) (fun v H2 => v = .non ∧ Q (.ref x) H2) E) : tMake C sp dvs E tA σ H Q := h
theorem go_makeK {C : Addr} {n m : Nat} {sp : Sp} {gV : List V → List V → List V} {tk : TA} (h : tA σ H fun vs H1 => tk σ H1 fun zs H2 => vs.length = n ∧ zs.length = m ∧ ∀ x dx, H2 x = none → H2 dx = none → dx ≠ x → sp (gV (.ref x :: vs) zs) (upd (upd H2 dx (.own x)) x (.ins C dx [])) (fun v H3 => v = .non ∧ Q (.ref x) H3) E) : tMakeK C n m sp gV E tA tk σ H Q := h
theorem go_two {A B R : Prop} (a : A) (b : B) (h : R) : A ∧ B ∧ R := ⟨a, b, h⟩
theorem go_own2 {C p q dx dy : Addr} {fs gs : List (Str × V)} {sp : Sp} (hp : H p = some (.ins C dx fs)) (hq : H q = some (.ins C dy gs)) (h : sp [.ref p, .ref q] H Q E) : rOwn2 C sp E (.ref p) (.ref q) H Q := ⟨p, dx, fs, q, dy, gs, rfl, rfl, hp, hq, h⟩
theorem go_ownI {C p dx : Addr} {fs : List (Str × V)} {sp : Sp} {i : Int} (hp : H p = some (.ins C dx fs)) (h : sp [.ref p, .int i] H Q E) : rOwnI C sp E (.ref p) (.int i) H Q := ⟨p, dx, fs, i, rfl, rfl, hp, h⟩
theorem go_ownU {C p dx : Addr} {fs : List (Str × V)} {sp : Sp} (hp : H p = some (.ins C dx fs)) (h : sp [.ref p] H Q E) : rOwnU C sp E (.ref p) H Q := ⟨p, dx, fs, rfl, hp, h⟩
theorem go_refl {C p dx : Addr} {fs : List (Str × V)} {sp : Sp} {i : Int} (hp : H p = some (.ins C dx fs)) (h : sp [.ref p, .int i] H Q E) : rRefl C sp E (.int i) (.ref p) H Q := ⟨i, p, dx, fs, rfl, rfl, hp, h⟩
end go2

/-! ### keywords and defaults -/
section
variable {K : PySem.W.Frag} {x qual : Str} {st : Stmt} {f : Addr} {fd : FuncData} {ps : List Str}
theorem Fun_kb (F : Fun K x qual st f fd) (n : Nat) (ks : List Str) (g : {α : Type} → List α → List α → List α) (hrel : ∀ {vs zs : List V} {us ws : List Value}, Vals vs us → Vals zs ws → Vals (g vs zs) (g us ws))
    (h : ∀ (kV doc pm : Value) (an : Option Addr) (cdv ct : Value) (us ws : List Value), us.length = n → ws.length = ks.length → bindArgs (PySem.W.fnOf x qual (defArgs st) (defBody st) (defScope st) .none kV doc pm an cdv ct) ⟨us, ks.zip ws⟩ = pure (ps.zip (g us ws))) :
    ∃ g', KBn K fd ps n ks g' (fun vs zs => g vs zs) := by
  obtain ⟨oc, od, kV, doc, pm, an, cdv, ct, osl, rfl, lk, hcd⟩ := F.ex
  exact ⟨fun us ws => g us ws, ⟨fun s us ws _ l1 l2 => .of_eq (h kV doc pm an cdv ct us ws l1 l2), fun r1 r2 => hrel r1 r2⟩⟩
theorem Vals_rev : ∀ {vs : List V} {us : List Value}, Vals vs us → Vals vs.reverse us.reverse := fun {vs us} h => by
  induction h with
  | nil => exact .nil
  | cons r _ ih =>
    rw [List.reverse_cons, List.reverse_cons]
    exact Vals.append ih (.cons r .nil)
end
section
variable {K : PySem.W.Frag} {x qual : Str} {params : Arguments} {body : List Stmt} {scope : Scope} {dvs : List V} {f : Addr} {fd : FuncData} {ps : List Str}
theorem FunD_all (F : FunD K x qual params body scope dvs [] f fd) (hd : dvs ≠ [])
    (h : ∀ (T : Addr) (kV doc pm : Value) (an : Option Addr) (cdv ct : Value) (us its : List Value), us.length = ps.length → its.length = dvs.length →
      ∃ k, bindArgs (PySem.W.fnOf x qual params body scope (.ref T) kV doc pm an cdv ct) ⟨us, []⟩ = seqItems? (.ref T) >>= k ∧ k (some its.toArray) = pure (ps.zip us)) : Binds K fd ps [] := by
  obtain ⟨ds, h1, h2⟩ := F.binds1 (ps := ps) ps.length dvs.length hd (by omega) fun T kV doc pm an cdv ct us its l1 l2 => by
    obtain ⟨k, e1, e2⟩ := h T kV doc pm an cdv ct us its l1 l2
    refine ⟨k, e1, ?_⟩
    rw [← l2, List.drop_length, List.append_nil]
    exact e2
  rw [List.drop_length] at h1
  cases h1
  exact h2
end
end SL

set_option Elab.async false
set_option linter.all false
set_option maxRecDepth 100000
set_option maxHeartbeats 4000000
namespace SL
open PySem L2 PySem.Spec PyProof.Rows

/-- the classes' addresses; cls: those that values may be of -/
structure Cl where
  C_Ratio : Addr := 0
  C_Form : Addr := 0
  C_Facts : Addr := 0
  C_Puppet : Addr := 0
  C_Script : Addr := 0
  C_Run : Addr := 0
  C_Wish : Addr := 0
  cls : List Addr := []
/-- what kind a value is of -/
inductive Ty where
  | non | bl | int | str | lst | tup | dic | cls (C : Addr)
  deriving DecidableEq
inductive Kd (K : PySem.W.Frag) (a : Cl) (H : Hp) : V → Ty → Prop where
  | non : Kd K a H .non .non
  | bl (b : Bool) : Kd K a H (.bl b) .bl
  | int (i : Int) : Kd K a H (.int i) .int
  | str (x : Str) : Kd K a H (.str x) .str
  | lst {p : Addr} {xs : List V} (h : H p = some (.lst xs)) : Kd K a H (.ref p) .lst
  | tup {p : Addr} {xs : List V} (h : H p = some (.tup xs)) : Kd K a H (.ref p) .tup
  | dK {p : Addr} {kvs : List (Key × V)} (h : H p = some (.dK kvs)) : Kd K a H (.ref p) .dic
  | dT {p : Addr} {kvs : List (List Key × V)} (h : H p = some (.dT kvs)) : Kd K a H (.ref p) .dic
  | ins {p C dx : Addr} {fs : List (Str × V)} (h : H p = some (.ins C dx fs)) (hC : C ∈ a.cls) : Kd K a H (.ref p) (.cls C)
theorem Kd.up {K : PySem.W.Frag} {a : Cl} {H H' : Hp} {v : V} {t : Ty} (e : L2.Same H H') (h : Kd K a H v t) : Kd K a H' v t := by
  cases h with
  | non => exact .non
  | bl b => exact .bl b
  | int i => exact .int i
  | str x => exact .str x
  | lst h => exact .lst (e _ _ h)
  | tup h => exact .tup (e _ _ h)
  | dK h => exact .dK (e _ _ h)
  | dT h => exact .dT (e _ _ h)
  | ins h c => exact .ins (e _ _ h) c
/-- what the written part must show of a class of values -/
structure CF (K : PySem.W.Frag) (C : Addr) : Prop where
  cl : Cls K C
  ha : PySem.W.findIn K (.ref C) "__class__" = some (some (.builtin "object.__class__"))
  hn : PySem.W.specialIn K (.builtin "object.__class__") "__get__" = some (some (.builtin "getset_descriptor.__get__"))
  ht : PySem.W.takesIn K (.builtin "object.__class__") = some true
  hm : PySem.W.mroIn K C (.type "object") = some true
  kb : ∀ T ∈ (["int", "bool", "str", "tuple", "list", "dict"] : List String), PySem.W.kitOne K (.ref C) (.type T) = some false
  kt : ∀ T ∈ (["NoneType", "bool", "int", "str", "list", "tuple", "dict"] : List String), PySem.W.kitOne K (.type T) (.ref C) = some false
  nf : ∀ T ∈ (["NoneType", "bool", "int", "str", "list", "tuple", "dict"] : List String), PySem.W.notFirst K C (.type T) = true
structure KF (K : PySem.W.Frag) (a : Cl) : Prop where
  cf : ∀ C ∈ a.cls, CF K C
  cc : ∀ C ∈ a.cls, ∀ D ∈ a.cls, PySem.W.kitOne K (.ref C) (.ref D) = some (decide (C = D))
  nn : ∀ C ∈ a.cls, ∀ D ∈ a.cls, PySem.W.notFirst K C (.ref D) = true
/-- the type as the library has it -/
def Ty.val : Ty → Value
  | .non => .type "NoneType"
  | .bl => .type "bool"
  | .int => .type "int"
  | .str => .type "str"
  | .lst => .type "list"
  | .tup => .type "tuple"
  | .dic => .type "dict"
  | .cls C => .ref C
theorem Kd.tyx {K : PySem.W.Frag} {a : Cl} {H : Hp} {v : V} {t : Ty} (F : KF K a) (h : Kd K a H v t) : TyX K H v t.val := by
  cases h with
  | non => exact .base .non
  | bl b => exact .base (.bl b)
  | int i => exact .base (.int i)
  | str x => exact .base (.str x)
  | lst h => exact .base (.lst h)
  | tup h => exact .base (.tup h)
  | dK h => exact .base (.dK h)
  | dT h => exact .base (.dT h)
  | ins h c => exact .base (.ins h (F.cf _ c).cl (F.cf _ c).ha (F.cf _ c).hn (F.cf _ c).ht (F.cf _ c).hm)
theorem Kd.mem {K : PySem.W.Frag} {a : Cl} {H : Hp} {v : V} {C : Addr} (h : Kd K a H v (.cls C)) : C ∈ a.cls := by
  cases h with
  | ins _ c => exact c
def Ty.isInt : Ty → Bool | .int => true | .bl => true | _ => false
def Ty.isBool : Ty → Bool | .bl => true | _ => false
def Ty.isStr : Ty → Bool | .str => true | _ => false
def Ty.isTup : Ty → Bool | .tup => true | _ => false
def Ty.isLst : Ty → Bool | .lst => true | _ => false
def Ty.isDic : Ty → Bool | .dic => true | _ => false
section
variable {K : PySem.W.Frag} {a : Cl} {H : Hp} {v : V} {t : Ty} {Q : VK}
theorem kit_b {T : String} {f : Ty → Bool} (F : KF K a) (hT : T ∈ (["int", "bool", "str", "tuple", "list", "dict"] : List String)) (hb : kitB "NoneType" T = some (f .non) ∧ kitB "bool" T = some (f .bl) ∧ kitB "int" T = some (f .int) ∧ kitB "str" T = some (f .str) ∧ kitB "list" T = some (f .lst) ∧ kitB "tuple" T = some (f .tup) ∧ kitB "dict" T = some (f .dic))
    (hc : ∀ C, f (.cls C) = false) (h : Kd K a H v t) : PySem.W.kitOne K t.val (.type T) = some (f t) := by
  obtain ⟨h1, h2, h3, h4, h5, h6, h7⟩ := hb
  cases t with
  | non => exact kit_ty h1
  | bl => exact kit_ty h2
  | int => exact kit_ty h3
  | str => exact kit_ty h4
  | lst => exact kit_ty h5
  | tup => exact kit_ty h6
  | dic => exact kit_ty h7
  | cls C =>
    rw [hc C]
    exact (F.cf C h.mem).kb T hT
theorem isi_int {b : Bool} (F : KF K a) (h : Kd K a H v t) (e : t.isInt = b) (q : Q (.bl b) H) : rIsi K [v, .ty "int"] H Q :=
  ⟨v, .ty "int", t.val, .type "int", _, rfl, .ty "int", h.tyx F, kit_b F (by simp) (by decide +kernel) (fun _ => rfl) h, e ▸ q⟩
theorem isi_bool {b : Bool} (F : KF K a) (h : Kd K a H v t) (e : t.isBool = b) (q : Q (.bl b) H) : rIsi K [v, .ty "bool"] H Q :=
  ⟨v, .ty "bool", t.val, .type "bool", _, rfl, .ty "bool", h.tyx F, kit_b F (by simp) (by decide +kernel) (fun _ => rfl) h, e ▸ q⟩
theorem isi_str {b : Bool} (F : KF K a) (h : Kd K a H v t) (e : t.isStr = b) (q : Q (.bl b) H) : rIsi K [v, .ty "str"] H Q :=
  ⟨v, .ty "str", t.val, .type "str", _, rfl, .ty "str", h.tyx F, kit_b F (by simp) (by decide +kernel) (fun _ => rfl) h, e ▸ q⟩
theorem isi_tup {b : Bool} (F : KF K a) (h : Kd K a H v t) (e : t.isTup = b) (q : Q (.bl b) H) : rIsi K [v, .ty "tuple"] H Q :=
  ⟨v, .ty "tuple", t.val, .type "tuple", _, rfl, .ty "tuple", h.tyx F, kit_b F (by simp) (by decide +kernel) (fun _ => rfl) h, e ▸ q⟩
theorem isi_lst {b : Bool} (F : KF K a) (h : Kd K a H v t) (e : t.isLst = b) (q : Q (.bl b) H) : rIsi K [v, .ty "list"] H Q :=
  ⟨v, .ty "list", t.val, .type "list", _, rfl, .ty "list", h.tyx F, kit_b F (by simp) (by decide +kernel) (fun _ => rfl) h, e ▸ q⟩
theorem isi_dic {b : Bool} (F : KF K a) (h : Kd K a H v t) (e : t.isDic = b) (q : Q (.bl b) H) : rIsi K [v, .ty "dict"] H Q :=
  ⟨v, .ty "dict", t.val, .type "dict", _, rfl, .ty "dict", h.tyx F, kit_b F (by simp) (by decide +kernel) (fun _ => rfl) h, e ▸ q⟩
theorem isi_cls {C : Addr} (F : KF K a) (hC : C ∈ a.cls) (h : Kd K a H v t) (q : Q (.bl (decide (t = .cls C))) H) : rIsi K [v, .ref C] H Q := by
  refine ⟨v, .ref C, t.val, .ref C, _, rfl, .own C, h.tyx F, ?_, q⟩
  have c := (F.cf C hC).kt
  cases t with
  | non => exact c "NoneType" (by simp)
  | bl => exact c "bool" (by simp)
  | int => exact c "int" (by simp)
  | str => exact c "str" (by simp)
  | lst => exact c "list" (by simp)
  | tup => exact c "tuple" (by simp)
  | dic => exact c "dict" (by simp)
  | cls D =>
    rw [show decide (Ty.cls D = Ty.cls C) = decide (D = C) by by_cases e : D = C <;> simp [e]]
    exact F.cc D h.mem C hC
theorem nf_of {C : Addr} (F : KF K a) (hC : C ∈ a.cls) (h : Kd K a H v t) : PySem.W.notFirst K C t.val = true := by
  have c := (F.cf C hC).nf
  cases t with
  | non => exact c "NoneType" (by simp)
  | bl => exact c "bool" (by simp)
  | int => exact c "int" (by simp)
  | str => exact c "str" (by simp)
  | lst => exact c "list" (by simp)
  | tup => exact c "tuple" (by simp)
  | dic => exact c "dict" (by simp)
  | cls D => exact F.nn C hC D h.mem
end
end SL

set_option Elab.async false
set_option linter.all false
set_option maxRecDepth 100000
set_option maxHeartbeats 4000000
namespace SL
open PySem L2 PySem.Spec PyProof.Rows

/-! ### Ratios -/
def RatAt (a : Cl) (H : Hp) (p : Addr) (n d : Int) : Prop := ∃ dx, H p = some (.ins a.C_Ratio dx [("top", .int n), ("bottom", .int d)])
theorem RatAt.up {a : Cl} {H H' : Hp} {p : Addr} {n d : Int} (e : L2.Same H H') (h : RatAt a H p n d) : RatAt a H' p n d := let ⟨dx, h⟩ := h; ⟨dx, e _ _ h⟩
theorem RatAt.kd {K : PySem.W.Frag} {a : Cl} {H : Hp} {p : Addr} {n d : Int} (hR : a.C_Ratio ∈ a.cls) (h : RatAt a H p n d) : Kd K a H (.ref p) (.cls a.C_Ratio) := let ⟨_, h⟩ := h; .ins h hR
/-- an int or a Ratio, and its worth -/
def Frac (a : Cl) (H : Hp) (v : V) (n d : Int) : Prop := (v = .int n ∧ d = 1) ∨ ∃ p, v = .ref p ∧ RatAt a H p n d
theorem Frac.up {a : Cl} {H H' : Hp} {v : V} {n d : Int} (e : L2.Same H H') (h : Frac a H v n d) : Frac a H' v n d := by
  rcases h with h | ⟨p, h1, h2⟩
  · exact .inl h
  · exact .inr ⟨p, h1, h2.up e⟩
theorem Frac.int {a : Cl} {H : Hp} {n : Int} : Frac a H (.int n) n 1 := .inl ⟨rfl, rfl⟩
theorem Frac.rat {a : Cl} {H : Hp} {p : Addr} {n d : Int} (h : RatAt a H p n d) : Frac a H (.ref p) n d := .inr ⟨p, rfl, h⟩
theorem lk_top (n d : Int) : ([("top", V.int n), ("bottom", V.int d)] : List (Str × V)).lookup ("top" : Str) = some (.int n) := by
  rw [List.lookup_cons]; simp
theorem lk_bot (n d : Int) : ([("top", V.int n), ("bottom", V.int d)] : List (Str × V)).lookup ("bottom" : Str) = some (.int d) := by
  rw [List.lookup_cons, show (("bottom" : Str) == "top") = false by decide +kernel]; simp
theorem put_tb (n d : Int) : putF "bottom" (.int d) (putF "top" (.int n) []) = ([("top", V.int n), ("bottom", V.int d)] : List (Str × V)) := by
  show (if ("top" : Str) = "bottom" then [(("top" : Str), V.int d)] else (("top" : Str), V.int n) :: putF "bottom" (V.int d) []) = ([("top", V.int n), ("bottom", V.int d)] : List (Str × V))
  rw [if_neg (by decide +kernel)]
  all_goals rfl
section
variable {K : PySem.W.Frag} {a : Cl} {H : Hp} {Q : VK} {p : Addr} {n d : Int}
theorem go_top {R : V → Prop} (hp : RatAt a H p n d) (h : R (.int n)) : ∃ q dx fs v, V.ref p = .ref q ∧ H q = some (.ins a.C_Ratio dx fs) ∧ fs.lookup ("top" : Str) = some v ∧ R v := let ⟨dx, e⟩ := hp; ⟨p, dx, _, _, rfl, e, lk_top n d, h⟩
theorem go_bot {R : V → Prop} (hp : RatAt a H p n d) (h : R (.int d)) : ∃ q dx fs v, V.ref p = .ref q ∧ H q = some (.ins a.C_Ratio dx fs) ∧ fs.lookup ("bottom" : Str) = some v ∧ R v := let ⟨dx, e⟩ := hp; ⟨p, dx, _, _, rfl, e, lk_bot n d, h⟩
end

theorem go_ratM {a : Cl} {H : Hp} {p : Addr} {n d : Int} {m : Str} {R : Prop} (hp : RatAt a H p n d) (hm : (m == ("top" : Str)) = false) (hm2 : (m == ("bottom" : Str)) = false) (h : R) : ∃ q dx fs, V.ref p = .ref q ∧ H q = some (.ins a.C_Ratio dx fs) ∧ fs.lookup m = none ∧ R := by
  obtain ⟨dx, e⟩ := hp
  refine ⟨p, dx, _, rfl, e, ?_, h⟩
  rw [List.lookup_cons, hm, List.lookup_cons, hm2]
  rfl
/-! ### the promises -/
def sp_is_integer (K : PySem.W.Frag) (a : Cl) : Sp := fun vs H Q _ => ∃ v t, vs = [v] ∧ Kd K a H v t ∧ Q (.bl (decide (t = .int))) H
def sp_shared_factor (K : PySem.W.Frag) (a : Cl) : Sp := fun vs H Q _ => ∃ n d, vs = [.int n, .int d] ∧ Q (.int (gI n d)) H
def sp_is_fraction (K : PySem.W.Frag) (a : Cl) : Sp := fun vs H Q _ => ∃ v t, vs = [v] ∧ Kd K a H v t ∧ Q (.bl (decide (t = .int) || decide (t = .cls a.C_Ratio))) H
def sp_as_ratio (K : PySem.W.Frag) (a : Cl) : Sp := fun vs H Q _ => ∃ v n d, vs = [v] ∧ Frac a H v n d ∧ ∀ p H', L2.Same H H' → RatAt a H' p n d → Q (.ref p) H'
def sp_Ratio___init__ (K : PySem.W.Frag) (a : Cl) : Sp := fun vs H Q _ => ∃ p dx n d, vs = [.ref p, .int n, .int d] ∧ H p = some (.ins a.C_Ratio dx []) ∧ 0 < d ∧ Bd 8000 d ∧
  ∀ H', (∀ b o, b ≠ p → H b = some o → H' b = some o) → RatAt a H' p (nm n d) (dn n d) → Q .non H'
def cmpI (x y : Int) : Int := if x = y then 0 else if x < y then -1 else 1
def sp_compared (K : PySem.W.Frag) (a : Cl) : Sp := fun vs H Q _ => ∃ p q n1 d1 n2 d2, vs = [.ref p, .ref q] ∧ RatAt a H p n1 d1 ∧ RatAt a H q n2 d2 ∧ Bd 3000 n1 ∧ Bd 3000 d1 ∧ Bd 3000 n2 ∧ Bd 3000 d2 ∧ Q (.int (cmpI (n1 * d2) (n2 * d1))) H
/-- what two fractions are asked for -/
structure Two (n1 d1 n2 d2 : Int) : Prop where
  p1 : 0 < d1
  p2 : 0 < d2
  b1 : Bd 3000 n1
  b2 : Bd 3000 d1
  b3 : Bd 3000 n2
  b4 : Bd 3000 d2
def spBin (a : Cl) (f : Int → Int → Int → Int → Int) (g : Int → Int → Int → Int → Int) : Sp := fun vs H Q _ => ∃ p v n1 d1 n2 d2, vs = [.ref p, v] ∧ RatAt a H p n1 d1 ∧ Frac a H v n2 d2 ∧ Two n1 d1 n2 d2 ∧
  ∀ q H', L2.Same H H' → RatAt a H' q (nm (f n1 d1 n2 d2) (g n1 d1 n2 d2)) (dn (f n1 d1 n2 d2) (g n1 d1 n2 d2)) → Q (.ref q) H'
def sp_Ratio___add__ (K : PySem.W.Frag) (a : Cl) : Sp := spBin a (fun n1 d1 n2 d2 => n1 * d2 + n2 * d1) (fun _ d1 _ d2 => d1 * d2)
def sp_Ratio___sub__ (K : PySem.W.Frag) (a : Cl) : Sp := spBin a (fun n1 d1 n2 d2 => n1 * d2 - n2 * d1) (fun _ d1 _ d2 => d1 * d2)
def sp_Ratio___mul__ (K : PySem.W.Frag) (a : Cl) : Sp := spBin a (fun n1 _ n2 _ => n1 * n2) (fun _ d1 _ d2 => d1 * d2)
def sp_Ratio___radd__ (K : PySem.W.Frag) (a : Cl) : Sp := spBin a (fun n1 d1 n2 d2 => n2 * d1 + n1 * d2) (fun _ d1 _ d2 => d2 * d1)
def sp_Ratio___rsub__ (K : PySem.W.Frag) (a : Cl) : Sp := spBin a (fun n1 d1 n2 d2 => n2 * d1 - n1 * d2) (fun _ d1 _ d2 => d2 * d1)
def sp_Ratio___rmul__ (K : PySem.W.Frag) (a : Cl) : Sp := spBin a (fun n1 _ n2 _ => n2 * n1) (fun _ d1 _ d2 => d2 * d1)
def sgn (n : Int) : Int := if 0 < n then 1 else -1
def sp_Ratio_over (K : PySem.W.Frag) (a : Cl) : Sp := fun vs H Q _ => ∃ p v n1 d1 n2 d2, vs = [.ref p, v] ∧ RatAt a H p n1 d1 ∧ Frac a H v n2 d2 ∧ Two n1 d1 n2 d2 ∧ n2 ≠ 0 ∧
  ∀ q H', L2.Same H H' → RatAt a H' q (nm (sgn n2 * n1 * d2) (sgn n2 * d1 * n2)) (dn (sgn n2 * n1 * d2) (sgn n2 * d1 * n2)) → Q (.ref q) H'
def sp_Ratio_compared (K : PySem.W.Frag) (a : Cl) : Sp := fun vs H Q _ => ∃ p v n1 d1 n2 d2, vs = [.ref p, v] ∧ RatAt a H p n1 d1 ∧ Frac a H v n2 d2 ∧ Two n1 d1 n2 d2 ∧ ∀ H', L2.Same H H' → Q (.int (cmpI (n1 * d2) (n2 * d1))) H'
def sp_Ratio___neg__ (K : PySem.W.Frag) (a : Cl) : Sp := fun vs H Q _ => ∃ p n d, vs = [.ref p] ∧ RatAt a H p n d ∧ 0 < d ∧ Bd 8000 d ∧ ∀ q H', L2.Same H H' → RatAt a H' q (nm (-n) d) (dn (-n) d) → Q (.ref q) H'
def sp_Ratio___eq__ (K : PySem.W.Frag) (a : Cl) : Sp := fun vs H Q _ => ∃ p v n d t, vs = [.ref p, v] ∧ RatAt a H p n d ∧ Kd K a H v t ∧
  ((t ≠ .int ∧ t ≠ .cls a.C_Ratio ∧ Q (.bl false) H) ∨ ∃ n2 d2, Frac a H v n2 d2 ∧ ∀ H', L2.Same H H' → Q (.bl (decide (n = n2) && decide (d = d2))) H')

/-! ### readings -/
abbrev nm_is_integer : List Str := ["value"]
def rd_is_integer (K : PySem.W.Frag) (a : Cl) (E : XK) : TS := (tRet (tAndV (tCB (rIsi K) (tCons (tVar 0) (tCons (tC (.ty "int")) tNil))) (tNotV (tCB (rIsi K) (tCons (tVar 0) (tCons (tC (.ty "bool")) tNil))))))
abbrev nm_shared_factor : List Str := ["one", "two", "high", "low"]
def rd_shared_factor (K : PySem.W.Frag) (a : Cl) (E : XK) : TS := (tSeq (tPar 2 3 (tCons (tCB rAbs (tCons (tVar 0) tNil)) (tCons (tCB rAbs (tCons (tVar 1) tNil)) tNil)))
  (tSeq (tWhile (tTest (tOp (rI0 fun i j => .bl (decide (j < i))) (tVar 3) (tC (.int 0)))) (tPar 2 3 (tCons (tVar 3) (tCons (tOp (rI (fun _ j => j ≠ 0) fun i j => .int (i.fmod j)) (tVar 2) (tVar 3)) tNil))))
  (tRet (tVar 2))))
abbrev nm_is_fraction : List Str := ["value"]
def rd_is_fraction (K : PySem.W.Frag) (a : Cl) (E : XK) : TS := (tRet (tOrV (tCall (sp_is_integer K a) [] E (tCons (tVar 0) tNil)) (tCB (rIsi K) (tCons (tVar 0) (tCons (tC (.ref a.C_Ratio)) tNil)))))
abbrev nm_as_ratio : List Str := ["value"]
def rd_as_ratio (K : PySem.W.Frag) (a : Cl) (E : XK) : TS := (tRet (tIf (tB (tCB (rIsi K) (tCons (tVar 0) (tCons (tC (.ref a.C_Ratio)) tNil)))) (tVar 0) (tMake a.C_Ratio (sp_Ratio___init__ K a) [.int 1] E (tCons (tVar 0) tNil))))
abbrev nm_compared : List Str := ["one", "other", "left", "right"]
def rd_compared (K : PySem.W.Frag) (a : Cl) (E : XK) : TS := (tSeq (tPar 2 3 (tCons (tOp (rI IntMulOk fun i j => .int (i * j)) (tFldC a.C_Ratio (tVar 0) "top") (tFldC a.C_Ratio (tVar 1) "bottom")) (tCons (tOp (rI IntMulOk fun i j => .int (i * j)) (tFldC a.C_Ratio (tVar 1) "top") (tFldC a.C_Ratio (tVar 0) "bottom")) tNil)))
  (tSeq (tIfS (tTest (tOp rEq (tVar 2) (tVar 3))) (tRet (tC (.int 0))) tNext)
  (tRet (tIf (tTest (tOp (rI0 fun i j => .bl (decide (i < j))) (tVar 2) (tVar 3))) (tUn (rU fun i => .int (-i)) (tC (.int 1))) (tC (.int 1))))))
abbrev nm_Ratio___init__ : List Str := ["self", "top", "bottom", "factor"]
def rd_Ratio___init__ (K : PySem.W.Frag) (a : Cl) (E : XK) : TS := (tSeq (tIfS (tNot (tB (tCall (sp_is_integer K a) [] E (tCons (tVar 1) tNil)))) tNever tNext)
  (tSeq (tIfS (tOr (tNot (tB (tCall (sp_is_integer K a) [] E (tCons (tVar 2) tNil)))) (tTest (tOp (rI0 fun i j => .bl (decide (i < j))) (tVar 2) (tC (.int 1))))) tNever tNext)
  (tSeq (tAsg (tCall (sp_shared_factor K a) [] E (tCons (tVar 1) (tCons (tVar 2) tNil))) (gName 3))
  (tSeq (sFldC a.C_Ratio (tVar 0) (tOp (rI CDivX fun i j => .int (i.fdiv j)) (tVar 1) (tVar 3)) "top")
  (sFldC a.C_Ratio (tVar 0) (tOp (rI CDivX fun i j => .int (i.fdiv j)) (tVar 2) (tVar 3)) "bottom")))))
abbrev nm_Ratio_over : List Str := ["self", "other", "by", "sign"]
def rd_Ratio_over (K : PySem.W.Frag) (a : Cl) (E : XK) : TS := (tSeq (tIfS (tOr (tNot (tB (tCall (sp_is_fraction K a) [] E (tCons (tVar 1) tNil)))) (tTest (tOp rEq (tFldC a.C_Ratio (tCall (sp_as_ratio K a) [] E (tCons (tVar 1) tNil)) "top") (tC (.int 0))))) tNever tNext)
  (tSeq (tAsg (tCall (sp_as_ratio K a) [] E (tCons (tVar 1) tNil)) (gName 2))
  (tSeq (tAsg (tIf (tTest (tOp (rI0 fun i j => .bl (decide (j < i))) (tFldC a.C_Ratio (tVar 2) "top") (tC (.int 0)))) (tC (.int 1)) (tUn (rU fun i => .int (-i)) (tC (.int 1)))) (gName 3))
  (tRet (tMake a.C_Ratio (sp_Ratio___init__ K a) [] E (tCons (tOp (rI IntMulOk fun i j => .int (i * j)) (tOp (rI IntMulOk fun i j => .int (i * j)) (tVar 3) (tFldC a.C_Ratio (tVar 0) "top")) (tFldC a.C_Ratio (tVar 2) "bottom")) (tCons (tOp (rI IntMulOk fun i j => .int (i * j)) (tOp (rI IntMulOk fun i j => .int (i * j)) (tVar 3) (tFldC a.C_Ratio (tVar 0) "bottom")) (tFldC a.C_Ratio (tVar 2) "top")) tNil)))))))
abbrev nm_Ratio_compared : List Str := ["self", "other"]
def rd_Ratio_compared (K : PySem.W.Frag) (a : Cl) (E : XK) : TS := (tSeq (tIfS (tNot (tB (tCall (sp_is_fraction K a) [] E (tCons (tVar 1) tNil)))) tNever tNext)
  (tRet (tCall (sp_compared K a) [] E (tCons (tVar 0) (tCons (tCall (sp_as_ratio K a) [] E (tCons (tVar 1) tNil)) tNil)))))
abbrev nm_Ratio___add__ : List Str := ["self", "other", "by"]
def rd_Ratio___add__ (K : PySem.W.Frag) (a : Cl) (E : XK) : TS := (tSeq (tIfS (tNot (tB (tCall (sp_is_fraction K a) [] E (tCons (tVar 1) tNil)))) tNever tNext)
  (tSeq (tAsg (tCall (sp_as_ratio K a) [] E (tCons (tVar 1) tNil)) (gName 2))
  (tRet (tMake a.C_Ratio (sp_Ratio___init__ K a) [] E (tCons (tOp (rI0 fun i j => .int (i + j)) (tOp (rI IntMulOk fun i j => .int (i * j)) (tFldC a.C_Ratio (tVar 0) "top") (tFldC a.C_Ratio (tVar 2) "bottom")) (tOp (rI IntMulOk fun i j => .int (i * j)) (tFldC a.C_Ratio (tVar 2) "top") (tFldC a.C_Ratio (tVar 0) "bottom"))) (tCons (tOp (rI IntMulOk fun i j => .int (i * j)) (tFldC a.C_Ratio (tVar 0) "bottom") (tFldC a.C_Ratio (tVar 2) "bottom")) tNil))))))
abbrev nm_Ratio___radd__ : List Str := ["self", "other"]
def rd_Ratio___radd__ (K : PySem.W.Frag) (a : Cl) (E : XK) : TS := (tSeq (tIfS (tNot (tB (tCall (sp_is_fraction K a) [] E (tCons (tVar 1) tNil)))) tNever tNext)
  (tRet (tOp (rOwn2 a.C_Ratio (sp_Ratio___add__ K a) E) (tCall (sp_as_ratio K a) [] E (tCons (tVar 1) tNil)) (tVar 0))))
abbrev nm_Ratio___sub__ : List Str := ["self", "other", "by"]
def rd_Ratio___sub__ (K : PySem.W.Frag) (a : Cl) (E : XK) : TS := (tSeq (tIfS (tNot (tB (tCall (sp_is_fraction K a) [] E (tCons (tVar 1) tNil)))) tNever tNext)
  (tSeq (tAsg (tCall (sp_as_ratio K a) [] E (tCons (tVar 1) tNil)) (gName 2))
  (tRet (tMake a.C_Ratio (sp_Ratio___init__ K a) [] E (tCons (tOp (rI0 fun i j => .int (i - j)) (tOp (rI IntMulOk fun i j => .int (i * j)) (tFldC a.C_Ratio (tVar 0) "top") (tFldC a.C_Ratio (tVar 2) "bottom")) (tOp (rI IntMulOk fun i j => .int (i * j)) (tFldC a.C_Ratio (tVar 2) "top") (tFldC a.C_Ratio (tVar 0) "bottom"))) (tCons (tOp (rI IntMulOk fun i j => .int (i * j)) (tFldC a.C_Ratio (tVar 0) "bottom") (tFldC a.C_Ratio (tVar 2) "bottom")) tNil))))))
abbrev nm_Ratio___rsub__ : List Str := ["self", "other"]
def rd_Ratio___rsub__ (K : PySem.W.Frag) (a : Cl) (E : XK) : TS := (tSeq (tIfS (tNot (tB (tCall (sp_is_fraction K a) [] E (tCons (tVar 1) tNil)))) tNever tNext)
  (tRet (tOp (rOwn2 a.C_Ratio (sp_Ratio___sub__ K a) E) (tCall (sp_as_ratio K a) [] E (tCons (tVar 1) tNil)) (tVar 0))))
abbrev nm_Ratio___mul__ : List Str := ["self", "other", "by"]
def rd_Ratio___mul__ (K : PySem.W.Frag) (a : Cl) (E : XK) : TS := (tSeq (tIfS (tNot (tB (tCall (sp_is_fraction K a) [] E (tCons (tVar 1) tNil)))) tNever tNext)
  (tSeq (tAsg (tCall (sp_as_ratio K a) [] E (tCons (tVar 1) tNil)) (gName 2))
  (tRet (tMake a.C_Ratio (sp_Ratio___init__ K a) [] E (tCons (tOp (rI IntMulOk fun i j => .int (i * j)) (tFldC a.C_Ratio (tVar 0) "top") (tFldC a.C_Ratio (tVar 2) "top")) (tCons (tOp (rI IntMulOk fun i j => .int (i * j)) (tFldC a.C_Ratio (tVar 0) "bottom") (tFldC a.C_Ratio (tVar 2) "bottom")) tNil))))))
abbrev nm_Ratio___rmul__ : List Str := ["self", "other"]
def rd_Ratio___rmul__ (K : PySem.W.Frag) (a : Cl) (E : XK) : TS := (tSeq (tIfS (tNot (tB (tCall (sp_is_fraction K a) [] E (tCons (tVar 1) tNil)))) tNever tNext)
  (tRet (tOp (rOwn2 a.C_Ratio (sp_Ratio___mul__ K a) E) (tCall (sp_as_ratio K a) [] E (tCons (tVar 1) tNil)) (tVar 0))))
abbrev nm_Ratio___neg__ : List Str := ["self"]
def rd_Ratio___neg__ (K : PySem.W.Frag) (a : Cl) (E : XK) : TS := (tRet (tMake a.C_Ratio (sp_Ratio___init__ K a) [] E (tCons (tUn (rU fun i => .int (-i)) (tFldC a.C_Ratio (tVar 0) "top")) (tCons (tFldC a.C_Ratio (tVar 0) "bottom") tNil))))
abbrev nm_Ratio___eq__ : List Str := ["self", "other", "by"]
def rd_Ratio___eq__ (K : PySem.W.Frag) (a : Cl) (E : XK) : TS := (tSeq (tIfS (tNot (tB (tCall (sp_is_fraction K a) [] E (tCons (tVar 1) tNil)))) (tRet (tC (.bl false))) tNext)
  (tSeq (tAsg (tCall (sp_as_ratio K a) [] E (tCons (tVar 1) tNil)) (gName 2))
  (tRet (tAndV (tOp rEq (tFldC a.C_Ratio (tVar 0) "top") (tFldC a.C_Ratio (tVar 2) "top")) (tOp rEq (tFldC a.C_Ratio (tVar 0) "bottom") (tFldC a.C_Ratio (tVar 2) "bottom"))))))
local macro_rules | `(tactic| walk_at "up") => `(tactic| first | assumption | exact upd_same | (apply SL.RatAt.up; assumption; walk_at "up") | (apply SL.Same.at; assumption; walk_at "up"))
local macro_rules | `(tactic| walk_at "s0") => `(tactic| first
  | with_reducible refine SL.go_var (by with_unfolding_all rfl) ?_
  | with_reducible refine SL.go_seq ?_
  | with_reducible refine SL.go_next ?_
  | with_reducible refine SL.go_asg ?_
  | with_reducible refine SL.go_gname ?_
  | with_reducible refine SL.go_ret ?_
  | with_reducible refine SL.go_drop ?_
  | with_reducible refine SL.go_ifs ?_
  | with_reducible refine SL.go_c ?_
  | with_reducible refine SL.go_op ?_
  | with_reducible refine SL.go_un ?_
  | with_reducible refine SL.go_I0 ?_
  | with_reducible refine SL.go_U ?_
  | with_reducible refine SL.go_test ?_
  | with_reducible refine SL.go_tb ?_
  | with_reducible refine SL.go_bl ?_
  | with_reducible refine SL.go_eqI ?_
  | with_reducible refine SL.go_neI ?_
  | with_reducible refine SL.go_eqB ?_
  | with_reducible refine SL.go_neB ?_
  | with_reducible refine SL.go_eqS ?_
  | with_reducible refine SL.go_neS ?_
  | with_reducible refine SL.go_and ?_
  | with_reducible refine SL.go_or ?_
  | with_reducible refine SL.go_not ?_
  | with_reducible refine SL.go_andV ?_
  | with_reducible refine SL.go_orV ?_
  | with_reducible refine SL.go_notV ?_
  | with_reducible refine SL.go_if ?_
  | with_reducible refine SL.go_T ?_
  | with_reducible refine SL.go_F ?_
  | with_reducible refine SL.go_nT ?_
  | with_reducible refine SL.go_nF ?_
  | with_reducible refine SL.go_nil ?_
  | with_reducible refine SL.go_cons ?_
  | with_reducible refine SL.go_call ?_
  | with_reducible refine SL.go_cb ?_
  | with_reducible refine SL.go_par ?_
  | with_reducible refine SL.go_pair ?_
  | with_reducible refine SL.go_tup ?_
  | with_reducible refine SL.go_lst ?_
  | with_reducible refine SL.go_fldC ?_
  | with_reducible refine SL.go_sfld ?_
  | with_reducible refine SL.go_sub ?_
  | with_reducible refine SL.go_sl ?_
  | with_reducible refine SL.go_noPart ?_
  | with_reducible refine SL.go_part ?_
  | with_reducible refine SL.go_partE ?_
  | with_reducible refine SL.go_abs ?_
  | with_reducible refine SL.go_max2 ?_
  | with_reducible refine SL.go_min2 ?_
  | with_reducible refine SL.go_int ?_
  | with_reducible refine SL.go_intB ?_
  | with_reducible refine SL.go_bm ?_
  | with_reducible refine SL.go_meth ?_
  | with_reducible refine SL.go_methN ?_
  | with_reducible refine SL.go_make ?_
  | with_reducible refine SL.go_makeK ?_
  | with_reducible refine SL.go_for ?_
  | with_reducible refine SL.go_iList ?_
  | with_reducible refine SL.go_iTup ?_
  | with_reducible refine SL.go_iRng1 ?_
  | with_reducible refine SL.go_iRng2 ?_
  | with_reducible refine SL.go_lc ?_
  | with_reducible refine SL.go_yes ?_)
local macro_rules | `(tactic| walk_at "go") => `(tactic| repeat walk_at "s0")
local macro_rules | `(tactic| walk_at "nw") => `(tactic| (refine ⟨SL.szL (by simp), fun p n => ?_⟩; generalize q : upd _ p _ = H'; have e := SL.Same.new' n q; have h := SL.at_new q; clear q))
local macro_rules | `(tactic| walk_at "nw0") => `(tactic| (intro p n; generalize q : upd _ p _ = H'; have e := SL.Same.new' n q; have h := SL.at_new q; clear q))
section
variable {K : PySem.W.Frag} {a : Cl} {vs : List V} {H : Hp} {Q : VK} {E : XK}
abbrev ends (Q : VK) : Ends := { nx := fun _ H' => Q .non H', rt := Q }

theorem read_is_integer (F : KF K a) (h : sp_is_integer K a vs H Q E) : rd_is_integer K a E (ends Q) (start nm_is_integer vs) H := by
  obtain ⟨v, t, rfl, hk, q⟩ := h
  unfold rd_is_integer
  walk_at "go"
  cases t <;> first
    | (refine isi_int (b := false) F hk rfl ?_; walk_at "go"; exact q)
    | (refine isi_int (b := true) F hk rfl ?_; walk_at "go"; first | (refine isi_bool (b := false) F hk rfl ?_; walk_at "go"; exact q) | (refine isi_bool (b := true) F hk rfl ?_; walk_at "go"; exact q))

theorem read_is_fraction (F : KF K a) (hR : a.C_Ratio ∈ a.cls) (h : sp_is_fraction K a vs H Q E) : rd_is_fraction K a E (ends Q) (start nm_is_fraction vs) H := by
  obtain ⟨v, t, rfl, hk, q⟩ := h
  unfold rd_is_fraction
  walk_at "go"
  refine ⟨v, t, rfl, hk, ?_⟩
  walk_at "go"
  refine go_d (fun e => ?_) (fun e => ?_)
  · subst e; exact q
  · walk_at "go"
    refine isi_cls F hR hk ?_
    rw [decide_eq_false e, Bool.false_or] at q
    exact q

theorem read_shared_factor (h : sp_shared_factor K a vs H Q E) : rd_shared_factor K a E (ends Q) (start nm_shared_factor vs) H := by
  obtain ⟨n, d, rfl, q⟩ := h
  unfold rd_shared_factor
  walk_at "go"
  refine ⟨fun m σ H' => ∃ x y : Int, σ = [some (.int n), some (.int d), some (.int x), some (.int y)] ∧ H' = H ∧ 0 ≤ x ∧ 0 ≤ y ∧ gI x y = gI n d ∧ m = y.toNat, ⟨_, _, _, rfl, rfl, by split <;> omega, by split <;> omega, gI_abs n d, rfl⟩, ?_⟩
  rintro m σ H' ⟨x, y, rfl, rfl, hx, hy, hg, rfl⟩
  walk_at "go"
  refine go_d (fun hy0 => ?_) (fun hy0 => ?_)
  · refine ⟨fun σ' H'' => ∃ m', m' < y.toNat ∧ ∃ x y : Int, σ' = [some (.int n), some (.int d), some (.int x), some (.int y)] ∧ H'' = H' ∧ 0 ≤ x ∧ 0 ≤ y ∧ gI x y = gI n d ∧ m' = y.toNat, fun _ _ h => h, ?_⟩
    walk_at "go"
    refine go_I (by omega) ?_
    walk_at "go"
    have e : x.fmod y = x % y := Int.fmod_eq_emod_of_nonneg x (by omega)
    have l1 := Int.emod_nonneg x (show y ≠ 0 by omega)
    have l2 := Int.emod_lt_of_pos x hy0
    refine ⟨(x.fmod y).toNat, by omega, y, x.fmod y, rfl, rfl, hy, by omega, ?_, rfl⟩
    rw [gcd_turn hx hy0]
    exact hg
  · walk_at "go"
    have e : y = 0 := by omega
    subst e
    rw [gI_zero hx] at hg
    rw [hg]
    exact q

/-! ### Ratio(..) -/
theorem init_run {G : Addr → Hp → Prop} {x dx : Addr} {n d : Int} (hd : 0 < d) (hb : Bd 8000 d) (h : ∀ p H', L2.Same H H' → RatAt a H' p (nm n d) (dn n d) → G p H') (hx : H x = none) (hdx : H dx = none) (hne : dx ≠ x) :
    sp_Ratio___init__ K a [.ref x, .int n, .int d] (upd (upd H dx (.own x)) x (.ins a.C_Ratio dx [])) (fun v H2 => v = .non ∧ G x H2) E := by
  refine ⟨x, dx, n, d, rfl, upd_same, hd, hb, fun H' k r => ⟨rfl, h x H' (fun b o e => ?_) r⟩⟩
  refine k b o (ne_of_none e hx) ?_
  rw [upd_ne (ne_of_none e hx), upd_ne (ne_of_none e hdx)]
  exact e
theorem mk_ratio {G : Addr → Hp → Prop} {n d : Int} (hd : 0 < d) (hb : Bd 8000 d) (h : ∀ p H', L2.Same H H' → RatAt a H' p (nm n d) (dn n d) → G p H') :
    ∀ x dx, H x = none → H dx = none → dx ≠ x → sp_Ratio___init__ K a (.ref x :: ([.int n, .int d] ++ [])) (upd (upd H dx (.own x)) x (.ins a.C_Ratio dx [])) (fun v H2 => v = .non ∧ G x H2) E :=
  fun x dx hx hdx hne => init_run hd hb h hx hdx hne
theorem mk_ratio1 {G : Addr → Hp → Prop} {n : Int} (h : ∀ p H', L2.Same H H' → RatAt a H' p n 1 → G p H') :
    ∀ x dx, H x = none → H dx = none → dx ≠ x → sp_Ratio___init__ K a (.ref x :: ([.int n] ++ [.int 1])) (upd (upd H dx (.own x)) x (.ins a.C_Ratio dx [])) (fun v H2 => v = .non ∧ G x H2) E :=
  fun x dx hx hdx hne => init_run (n := n) (d := 1) (by decide) (Bd.small (by decide) (by decide) (by decide)) (fun p H' e r => h p H' e (by
    have := low_self (n := n) (d := 1) (by decide) (by simp)
    rw [this.1, this.2] at r
    exact r)) hx hdx hne
theorem read_Ratio___init__ (F : KF K a) (h : sp_Ratio___init__ K a vs H Q E) : rd_Ratio___init__ K a E (ends Q) (start nm_Ratio___init__ vs) H := by
  obtain ⟨p, dx, n, d, rfl, hp, hd, hb, k⟩ := h
  unfold rd_Ratio___init__
  walk_at "go"
  refine ⟨.int n, .int, rfl, .int n, ?_⟩
  walk_at "go"
  refine go_dnT rfl ?_
  walk_at "go"
  refine ⟨.int d, .int, rfl, .int d, ?_⟩
  walk_at "go"
  refine go_dnT rfl ?_
  walk_at "go"
  refine go_dF (by omega) ?_
  walk_at "go"
  refine ⟨n, d, rfl, ?_⟩
  have g0 := gI_pos (n := n) (d := d) (by omega)
  have c : ∀ x, CDivX x (gI n d) := fun x => ⟨by omega, Nat.lt_of_lt_of_le (PySem.Flt.log2_lt_of (by decide) (Nat.lt_of_le_of_lt (gI_le hd) hb)) (by decide)⟩
  walk_at "go"
  refine go_I (c n) ?_
  walk_at "go"
  refine go_sfldE hp (by decide) ?_
  walk_at "go"
  refine go_I (c d) ?_
  walk_at "go"
  refine go_sfldE upd_same (by show 1 < 1000; decide) ?_
  walk_at "go"
  rw [upd_upd, put_tb, Int.fdiv_eq_ediv_of_nonneg n (by omega), Int.fdiv_eq_ediv_of_nonneg d (by omega)]
  exact k _ (fun b o ne e => by rw [upd_ne ne]; exact e) ⟨dx, upd_same⟩
theorem read_as_ratio (F : KF K a) (hR : a.C_Ratio ∈ a.cls) (h : sp_as_ratio K a vs H Q E) : rd_as_ratio K a E (ends Q) (start nm_as_ratio vs) H := by
  obtain ⟨v, n, d, rfl, hf, k⟩ := h
  unfold rd_as_ratio
  walk_at "go"
  rcases hf with ⟨rfl, rfl⟩ | ⟨p, rfl, hp⟩
  · refine isi_cls F hR (.int n) ?_
    walk_at "go"
    refine go_dF (by simp) ?_
    walk_at "go"
    exact mk_ratio1 k
  · refine isi_cls F hR (hp.kd hR) ?_
    walk_at "go"
    refine go_dT rfl ?_
    walk_at "go"
    exact k p H (L2.Same.refl H) hp
theorem Bd.cmul {i j : Int} {x y : Nat} (h : Bd x i) (h' : Bd y j) (hx : 0 < x := by decide) (hy : 0 < y := by decide) (hs : x + y ≤ 1000000 := by decide) : IntMulOk i j := CMulW.ok (wide_mul h h' hx hy hs)
theorem read_compared (h : sp_compared K a vs H Q E) : rd_compared K a E (ends Q) (start nm_compared vs) H := by
  obtain ⟨p, q, n1, d1, n2, d2, rfl, hp, hq, b1, b2, b3, b4, k⟩ := h
  unfold rd_compared
  walk_at "go"
  refine go_top hp ?_
  walk_at "go"
  refine go_bot hq ?_
  refine go_I (b1.cmul b4) ?_
  walk_at "go"
  refine go_top hq ?_
  walk_at "go"
  refine go_bot hp ?_
  refine go_I (b3.cmul b2) ?_
  walk_at "go"
  unfold cmpI at k
  refine go_d (fun e => ?_) (fun e => ?_)
  · walk_at "go"
    rw [if_pos e] at k
    exact k
  · rw [if_neg e] at k
    walk_at "go"
    refine go_d (fun e => ?_) (fun e => ?_)
    · rw [if_pos e] at k
      walk_at "go"
      exact k
    · rw [if_neg e] at k
      walk_at "go"
      exact k
/-- the first rows of an operator: is_fraction, as_ratio -/
theorem frac_kd {v : V} {n d : Int} (hR : a.C_Ratio ∈ a.cls) (h : Frac a H v n d) : ∃ t, Kd K a H v t ∧ (t = .int ∨ t = .cls a.C_Ratio) := by
  rcases h with ⟨rfl, rfl⟩ | ⟨p, rfl, hp⟩
  · exact ⟨.int, .int n, .inl rfl⟩
  · exact ⟨_, hp.kd hR, .inr rfl⟩
theorem is_frac {v : V} {n d : Int} (hR : a.C_Ratio ∈ a.cls) (h : Frac a H v n d) (q : Q (.bl true) H) : sp_is_fraction K a ([v] ++ []) H Q E := by
  obtain ⟨t, hk, ht⟩ := frac_kd (K := K) hR h
  refine ⟨v, t, rfl, hk, ?_⟩
  rcases ht with rfl | rfl
  · exact q
  · simpa using q
theorem read_bin {f g : Int → Int → Int → Int → Int} {tn td : TE} (hR : a.C_Ratio ∈ a.cls) (h : spBin a f g vs H Q E)
    (hn : ∀ (σ : L2.St) (p q : Addr) (n1 d1 n2 d2 : Int) (H : Hp) (R : VK), σ = [some (.ref p), σ[1]!, some (.ref q)] → RatAt a H p n1 d1 → RatAt a H q n2 d2 → Two n1 d1 n2 d2 → R (.int (f n1 d1 n2 d2)) H → tn σ H R)
    (hd : ∀ (σ : L2.St) (p q : Addr) (n1 d1 n2 d2 : Int) (H : Hp) (R : VK), σ = [some (.ref p), σ[1]!, some (.ref q)] → RatAt a H p n1 d1 → RatAt a H q n2 d2 → Two n1 d1 n2 d2 → R (.int (g n1 d1 n2 d2)) H → td σ H R)
    (hg : ∀ n1 d1 n2 d2, Two n1 d1 n2 d2 → 0 < g n1 d1 n2 d2 ∧ Bd 8000 (g n1 d1 n2 d2)) :
    (tSeq (tIfS (tNot (tB (tCall (sp_is_fraction K a) [] E (tCons (tVar 1) tNil)))) tNever tNext) (tSeq (tAsg (tCall (sp_as_ratio K a) [] E (tCons (tVar 1) tNil)) (gName 2)) (tRet (tMake a.C_Ratio (sp_Ratio___init__ K a) [] E (tCons tn (tCons td tNil)))))) (ends Q) (start ["self", "other", "by"] vs) H := by
  obtain ⟨p, v, n1, d1, n2, d2, rfl, hp, hv, two, k⟩ := h
  walk_at "go"
  refine is_frac hR hv ?_
  walk_at "go"
  refine ⟨v, n2, d2, rfl, hv, fun q H1 e1 hq => ?_⟩
  walk_at "go"
  refine hn _ p q n1 d1 n2 d2 H1 _ rfl (hp.up e1) hq two ?_
  walk_at "go"
  refine hd _ p q n1 d1 n2 d2 H1 _ rfl (hp.up e1) hq two ?_
  walk_at "go"
  exact mk_ratio (hg n1 d1 n2 d2 two).1 (hg n1 d1 n2 d2 two).2 fun r H2 e2 hr => k r H2 (L2.Same.trans e1 e2) hr

theorem Two.prod {n1 d1 n2 d2 : Int} (t : Two n1 d1 n2 d2) : 0 < d1 * d2 ∧ Bd 8000 (d1 * d2) := ⟨Int.mul_pos t.p1 t.p2, (t.b2.mul t.b4).mono (by decide)⟩
theorem read_Ratio___add__ (hR : a.C_Ratio ∈ a.cls) (h : sp_Ratio___add__ K a vs H Q E) : rd_Ratio___add__ K a E (ends Q) (start nm_Ratio___add__ vs) H := by
  refine read_bin hR h ?_ ?_ (fun _ _ _ _ t => t.prod)
  · intro σ p q n1 d1 n2 d2 H R e hp hq t k
    rw [e]
    walk_at "go"
    refine go_top hp ?_
    walk_at "go"
    refine go_bot hq (go_I (t.b1.cmul t.b4) ?_)
    walk_at "go"
    refine go_top hq ?_
    walk_at "go"
    refine go_bot hp (go_I (t.b3.cmul t.b2) ?_)
    walk_at "go"
    exact k
  · intro σ p q n1 d1 n2 d2 H R e hp hq t k
    rw [e]
    walk_at "go"
    refine go_bot hp ?_
    walk_at "go"
    refine go_bot hq (go_I (t.b2.cmul t.b4) ?_)
    exact k
theorem read_Ratio___sub__ (hR : a.C_Ratio ∈ a.cls) (h : sp_Ratio___sub__ K a vs H Q E) : rd_Ratio___sub__ K a E (ends Q) (start nm_Ratio___sub__ vs) H := by
  refine read_bin hR h ?_ ?_ (fun _ _ _ _ t => t.prod)
  · intro σ p q n1 d1 n2 d2 H R e hp hq t k
    rw [e]
    walk_at "go"
    refine go_top hp ?_
    walk_at "go"
    refine go_bot hq (go_I (t.b1.cmul t.b4) ?_)
    walk_at "go"
    refine go_top hq ?_
    walk_at "go"
    refine go_bot hp (go_I (t.b3.cmul t.b2) ?_)
    walk_at "go"
    exact k
  · intro σ p q n1 d1 n2 d2 H R e hp hq t k
    rw [e]
    walk_at "go"
    refine go_bot hp ?_
    walk_at "go"
    refine go_bot hq (go_I (t.b2.cmul t.b4) ?_)
    exact k
theorem read_Ratio___mul__ (hR : a.C_Ratio ∈ a.cls) (h : sp_Ratio___mul__ K a vs H Q E) : rd_Ratio___mul__ K a E (ends Q) (start nm_Ratio___mul__ vs) H := by
  refine read_bin hR h ?_ ?_ (fun _ _ _ _ t => t.prod)
  · intro σ p q n1 d1 n2 d2 H R e hp hq t k
    rw [e]
    walk_at "go"
    refine go_top hp ?_
    walk_at "go"
    refine go_top hq (go_I (t.b1.cmul t.b3) ?_)
    exact k
  · intro σ p q n1 d1 n2 d2 H R e hp hq t k
    rw [e]
    walk_at "go"
    refine go_bot hp ?_
    walk_at "go"
    refine go_bot hq (go_I (t.b2.cmul t.b4) ?_)
    exact k
theorem Two.symm {n1 d1 n2 d2 : Int} (t : Two n1 d1 n2 d2) : Two n2 d2 n1 d1 := ⟨t.p2, t.p1, t.b3, t.b4, t.b1, t.b2⟩
theorem go_ratR {p q : Addr} {n1 d1 n2 d2 : Int} {sp : Sp} (hp : RatAt a H p n1 d1) (hq : RatAt a H q n2 d2) (h : sp [.ref p, .ref q] H Q E) : rOwn2 a.C_Ratio sp E (.ref p) (.ref q) H Q := let ⟨_, e1⟩ := hp; let ⟨_, e2⟩ := hq; go_own2 e1 e2 h
theorem go_ratI {p : Addr} {n1 d1 i : Int} {sp : Sp} (hp : RatAt a H p n1 d1) (h : sp [.ref p, .int i] H Q E) : rOwnI a.C_Ratio sp E (.ref p) (.int i) H Q := let ⟨_, e1⟩ := hp; go_ownI e1 h
theorem go_ratF {p : Addr} {n1 d1 i : Int} {sp : Sp} (hp : RatAt a H p n1 d1) (h : sp [.ref p, .int i] H Q E) : rRefl a.C_Ratio sp E (.int i) (.ref p) H Q := let ⟨_, e1⟩ := hp; go_refl e1 h
theorem go_ratU {p : Addr} {n1 d1 : Int} {sp : Sp} (hp : RatAt a H p n1 d1) (h : sp [.ref p] H Q E) : rOwnU a.C_Ratio sp E (.ref p) H Q := let ⟨_, e1⟩ := hp; go_ownU e1 h
theorem read_rev {f g f' g' : Int → Int → Int → Int → Int} (hR : a.C_Ratio ∈ a.cls) (h : spBin a f' g' vs H Q E) (hf : ∀ n1 d1 n2 d2, f' n1 d1 n2 d2 = f n2 d2 n1 d1) (hg : ∀ n1 d1 n2 d2, g' n1 d1 n2 d2 = g n2 d2 n1 d1) :
    (tSeq (tIfS (tNot (tB (tCall (sp_is_fraction K a) [] E (tCons (tVar 1) tNil)))) tNever tNext) (tRet (tOp (rOwn2 a.C_Ratio (spBin a f g) E) (tCall (sp_as_ratio K a) [] E (tCons (tVar 1) tNil)) (tVar 0)))) (ends Q) (start ["self", "other"] vs) H := by
  obtain ⟨p, v, n1, d1, n2, d2, rfl, hp, hv, two, k⟩ := h
  walk_at "go"
  refine is_frac hR hv ?_
  walk_at "go"
  refine ⟨v, n2, d2, rfl, hv, fun q H1 e1 hq => ?_⟩
  walk_at "go"
  refine go_ratR hq (hp.up e1) ?_
  refine ⟨q, .ref p, n2, d2, n1, d1, rfl, hq, .rat (hp.up e1), two.symm, fun r H2 e2 hr => ?_⟩
  rw [← hf, ← hg] at hr
  exact k r H2 (L2.Same.trans e1 e2) hr
theorem read_Ratio___radd__ (hR : a.C_Ratio ∈ a.cls) (h : sp_Ratio___radd__ K a vs H Q E) : rd_Ratio___radd__ K a E (ends Q) (start nm_Ratio___radd__ vs) H := read_rev hR h (fun _ _ _ _ => rfl) (fun _ _ _ _ => rfl)
theorem read_Ratio___rsub__ (hR : a.C_Ratio ∈ a.cls) (h : sp_Ratio___rsub__ K a vs H Q E) : rd_Ratio___rsub__ K a E (ends Q) (start nm_Ratio___rsub__ vs) H := read_rev hR h (fun _ _ _ _ => rfl) (fun _ _ _ _ => rfl)
theorem read_Ratio___rmul__ (hR : a.C_Ratio ∈ a.cls) (h : sp_Ratio___rmul__ K a vs H Q E) : rd_Ratio___rmul__ K a E (ends Q) (start nm_Ratio___rmul__ vs) H := read_rev hR h (fun _ _ _ _ => rfl) (fun _ _ _ _ => rfl)
theorem read_Ratio_compared (hR : a.C_Ratio ∈ a.cls) (h : sp_Ratio_compared K a vs H Q E) : rd_Ratio_compared K a E (ends Q) (start nm_Ratio_compared vs) H := by
  obtain ⟨p, v, n1, d1, n2, d2, rfl, hp, hv, two, k⟩ := h
  unfold rd_Ratio_compared
  walk_at "go"
  refine is_frac hR hv ?_
  walk_at "go"
  refine ⟨v, n2, d2, rfl, hv, fun q H1 e1 hq => ?_⟩
  walk_at "go"
  exact ⟨p, q, n1, d1, n2, d2, rfl, hp.up e1, hq, two.b1, two.b2, two.b3, two.b4, k H1 e1⟩
theorem read_Ratio___neg__ (h : sp_Ratio___neg__ K a vs H Q E) : rd_Ratio___neg__ K a E (ends Q) (start nm_Ratio___neg__ vs) H := by
  obtain ⟨p, n, d, rfl, hp, hd, hb, k⟩ := h
  unfold rd_Ratio___neg__
  walk_at "go"
  refine go_top hp ?_
  walk_at "go"
  refine go_bot hp ?_
  walk_at "go"
  exact mk_ratio hd hb k
theorem read_Ratio___eq__ (hR : a.C_Ratio ∈ a.cls) (h : sp_Ratio___eq__ K a vs H Q E) : rd_Ratio___eq__ K a E (ends Q) (start nm_Ratio___eq__ vs) H := by
  obtain ⟨p, v, n, d, t, rfl, hp, hk, k⟩ := h
  unfold rd_Ratio___eq__
  walk_at "go"
  rcases k with ⟨h1, h2, k⟩ | ⟨n2, d2, hv, k⟩
  · refine ⟨v, t, rfl, hk, ?_⟩
    rw [decide_eq_false h1, decide_eq_false h2]
    walk_at "go"
    refine iteT ?_
    walk_at "go"
    exact k
  · refine is_frac hR hv ?_
    walk_at "go"
    refine ⟨v, n2, d2, rfl, hv, fun q H1 e1 hq => ?_⟩
    walk_at "go"
    refine go_top (hp.up e1) ?_
    walk_at "go"
    refine go_top hq ?_
    walk_at "go"
    have k' := k H1 e1
    refine go_d (fun e => ?_) (fun e => ?_)
    · walk_at "go"
      refine go_bot (hp.up e1) ?_
      walk_at "go"
      refine go_bot hq ?_
      walk_at "go"
      rw [decide_eq_true e] at k'
      exact k'
    · rw [decide_eq_false e] at k'
      exact k'
theorem sgn_pos {n2 d1 : Int} (h : n2 ≠ 0) (hd : 0 < d1) : 0 < sgn n2 * d1 * n2 := by
  unfold sgn
  split
  · rw [Int.one_mul]; exact Int.mul_pos hd (by omega)
  · have : 0 < d1 * (-n2) := Int.mul_pos hd (by omega)
    have e : -1 * d1 * n2 = d1 * (-n2) := by rw [Int.mul_neg, Int.neg_mul, Int.one_mul, Int.neg_mul]
    omega
theorem sgn_bd (n : Int) : Bd 64 (sgn n) := by
  unfold sgn
  split <;> exact Bd.small (by decide) (by decide) (by decide)
theorem read_Ratio_over (hR : a.C_Ratio ∈ a.cls) (h : sp_Ratio_over K a vs H Q E) : rd_Ratio_over K a E (ends Q) (start nm_Ratio_over vs) H := by
  obtain ⟨p, v, n1, d1, n2, d2, rfl, hp, hv, two, hn, k⟩ := h
  unfold rd_Ratio_over
  walk_at "go"
  refine is_frac hR hv ?_
  walk_at "go"
  refine ⟨v, n2, d2, rfl, hv, fun q0 H0 e0 hq0 => ?_⟩
  walk_at "go"
  refine go_top hq0 ?_
  walk_at "go"
  refine go_dF hn ?_
  walk_at "go"
  refine ⟨v, n2, d2, rfl, hv.up e0, fun q H1 e1 hq => ?_⟩
  have e01 := L2.Same.trans e0 e1
  have hp1 := hp.up e01
  walk_at "go"
  refine go_top hq ?_
  walk_at "go"
  have key : ∀ (R : V → Hp → Prop), R (.int (sgn n2)) H1 → (if decide (0 < n2) = true then tC (.int 1) ([some (.ref p), some v, some (.ref q), none] : L2.St) H1 R else tUn (rU fun i => .int (-i)) (tC (.int 1)) ([some (.ref p), some v, some (.ref q), none] : L2.St) H1 R) := fun R r => by
    unfold sgn at r
    refine go_d (fun e => ?_) (fun e => ?_)
    · rw [if_pos e] at r; exact r
    · rw [if_neg e] at r
      walk_at "go"
      exact r
  refine key _ ?_
  walk_at "go"
  refine go_top hp1 (go_I ((sgn_bd n2).cmul two.b1) ?_)
  walk_at "go"
  refine go_bot hq (go_I (((sgn_bd n2).mul two.b1).cmul two.b4) ?_)
  walk_at "go"
  refine go_bot hp1 (go_I ((sgn_bd n2).cmul two.b2) ?_)
  walk_at "go"
  refine go_top hq (go_I (((sgn_bd n2).mul two.b2).cmul two.b3) ?_)
  walk_at "go"
  exact mk_ratio (sgn_pos hn two.p1) ((((sgn_bd n2).mul two.b2).mul two.b3).mono (by decide)) fun r H2 e2 hr => k r H2 (L2.Same.trans e01 e2) hr
end
end SL

set_option Elab.async false
set_option linter.all false
set_option maxRecDepth 100000
set_option maxHeartbeats 4000000
namespace SL
open PySem L2 PySem.Spec PyProof.Rows

/-! ### the bag that a law draws from -/
def BagAt (H : Hp) (b : Addr) : Prop := ∃ f s c : Int, H b = some (.lst [.int f, .int s, .int c])
/-- all but the bag stays -/
structure Grow (b : Addr) (H H' : Hp) : Prop where
  b0 : BagAt H b
  b1 : BagAt H' b
  keep : ∀ p o, p ≠ b → H p = some o → H' p = some o
theorem Grow.trans {b : Addr} {H H1 H2 : Hp} (x : Grow b H H1) (y : Grow b H1 H2) : Grow b H H2 := ⟨x.b0, y.b1, fun p o n h => y.keep p o n (x.keep p o n h)⟩
theorem Grow.same {b : Addr} {H H' : Hp} (h : BagAt H b) (e : L2.Same H H') : Grow b H H' := ⟨h, let ⟨f, s, c, q⟩ := h; ⟨f, s, c, e _ _ q⟩, fun p o _ q => e p o q⟩
theorem Grow.refl {b : Addr} {H : Hp} (h : BagAt H b) : Grow b H H := .same h (L2.Same.refl H)
theorem Grow.tup {b : Addr} {H H' : Hp} {p : Addr} {xs : List V} (g : Grow b H H') (h : H p = some (.tup xs)) : H' p = some (.tup xs) := by
  obtain ⟨f, s, c, q⟩ := g.b0
  exact g.keep p _ (ne_of h q (by intro z; cases z)) h
theorem Grow.ins {b : Addr} {H H' : Hp} {p C dx : Addr} {fs : List (Str × V)} (g : Grow b H H') (h : H p = some (.ins C dx fs)) : H' p = some (.ins C dx fs) := by
  obtain ⟨f, s, c, q⟩ := g.b0
  exact g.keep p _ (ne_of h q (by intro z; cases z)) h
theorem Grow.free {b : Addr} {H H' : Hp} {p : Addr} (g : Grow b H H') (h : H' p = none) : H p = none := by
  cases e : H p with
  | none => rfl
  | some o =>
    by_cases n : p = b
    · subst n
      obtain ⟨f, s, c, q⟩ := g.b1
      rw [q] at h; cases h
    · rw [g.keep p o n e] at h; cases h
theorem Grow.rat {a : Cl} {b : Addr} {H H' : Hp} {p : Addr} {n d : Int} (g : Grow b H H') (h : RatAt a H p n d) : RatAt a H' p n d := let ⟨dx, e⟩ := h; ⟨dx, g.ins e⟩
theorem Grow.lst {b : Addr} {H H' : Hp} {p : Addr} {xs : List V} (g : Grow b H H') (n : p ≠ b) (h : H p = some (.lst xs)) : H' p = some (.lst xs) := g.keep p _ n h
theorem BagAt.up {H H' : Hp} {b : Addr} (e : L2.Same H H') (h : BagAt H b) : BagAt H' b := let ⟨f, s, c, q⟩ := h; ⟨f, s, c, e _ _ q⟩
theorem BagAt.ne {H : Hp} {b p : Addr} (h : BagAt H b) (n : H p = none) : p ≠ b := by
  obtain ⟨f, s, c, q⟩ := h
  exact fun e => by subst e; rw [q] at n; cases n
/-- a sequence's items: a list, a tuple, a text sign by sign -/
inductive Sq (K : PySem.W.Frag) (H : Hp) : V → List V → Prop where
  | lst {p : Addr} {xs : List V} (h : SqL K H p xs) : Sq K H (.ref p) xs
  | tup {p : Addr} {xs : List V} (h : SqT K H p xs) : Sq K H (.ref p) xs
  | str (z : Str) (h : z.length ≤ 100000) : Sq K H (.str z) (z.cps.toList.map fun c => .str ⟨#[c]⟩)

/-! ### the promises of the common helpers -/
def sp__law_bag (K : PySem.W.Frag) (a : Cl) : Sp := fun vs H Q _ => ∃ (p : Addr) (ns : List Int) (k : Nat), vs = [.ref p, .int k] ∧ SqL K H p (ns.map V.int) ∧ ∀ b H', H b = none → L2.Same H H' → BagAt H' b → Q (.ref b) H'
def sp__law_draw (K : PySem.W.Frag) (a : Cl) : Sp := fun vs H Q _ => ∃ (b : Addr) (w : Int), vs = [.ref b, .int w] ∧ BagAt H b ∧ 0 < w ∧ Bd 8000 w ∧ ∀ r H', 0 ≤ r → r < w → Grow b H H' → Q (.int r) H'
def sp__law_one (K : PySem.W.Frag) (a : Cl) : Sp := fun vs H Q _ => ∃ (b : Addr) (v : V) (xs : List V), vs = [.ref b, v] ∧ BagAt H b ∧ Sq K H v xs ∧ (∀ H', Grow b H H' → Sq K H' v xs) ∧ xs ≠ [] ∧ xs.length ≤ 1000 ∧ ∀ x H', x ∈ xs → Grow b H H' → Q x H'
/-- lowest terms with the lower number's sign turned away -/
def lowN (n d : Int) : Int := if 0 < d then nm n d else nm (-n) (-d)
def lowD (n d : Int) : Int := if 0 < d then dn n d else dn (-n) (-d)
def sp__law_lowest (K : PySem.W.Frag) (a : Cl) : Sp := fun vs H Q _ => ∃ n d : Int, vs = [.int n, .int d] ∧ d ≠ 0 ∧ Bd 8000 d ∧ ∀ p H', H p = none → L2.Same H H' → H' p = some (.tup [.int (lowN n d), .int (lowD n d)]) → Q (.ref p) H'
abbrev nm__law_bag : List Str := ["_law_cells", "_law_k", "_law_cell", "_law_seed", "_law_this", "_law_figures"]
def rd__law_bag (K : PySem.W.Frag) (a : Cl) (E : XK) : TS := (tSeq (tPar 2 3 (tCons (tIf (tTest (tOp (rI0 fun i j => .bl (decide (i < j))) (tVar 1) (tCB (rLen K) (tCons (tVar 0) tNil)))) (tCB rInt1 (tCons (tOp (rIxL K) (tVar 0) (tVar 1)) tNil)) (tC (.int 0))) (tCons (tOp (rI IntMulOk fun i j => .int (i * j)) (tC (.int 50021)) (tOp (rI0 fun i j => .int (i + j)) (tVar 1) (tC (.int 7)))) tNil)))
  (tSeq (tFor (iList K (tSl (rSlL K) (tVar 0) tNoPart (tPart (tC (.int 7))))) (gName 4) (tAsg (tOp (rI (fun _ j => j ≠ 0) fun i j => .int (i.fmod j)) (tCB rInt1 (tCons (tOp (rI0 fun i j => .int (i + j)) (tOp (rI0 fun i j => .int (i + j)) (tOp (rI IntMulOk fun i j => .int (i * j)) (tVar 3) (tC (.int 27449))) (tOp (rI (fun _ j => j ≠ 0) fun i j => .int (i.fmod j)) (tCB rInt1 (tCons (tVar 4) tNil)) (tC (.int 1000081)))) (tOp (rI IntMulOk fun i j => .int (i * j)) (tC (.int 13)) (tVar 1))) tNil)) (tC (.int 2147483563))) (gName 3)))
  (tSeq (tAsg (tIf (tOr (tTest (tOp (rI0 fun i j => .bl (decide (i < j))) (tVar 2) (tC (.int 0)))) (tTest (tOp (rI0 fun i j => .bl (decide (j ≤ i))) (tVar 2) (tOp (rI CPow fun i j => .int (i ^ j.toNat)) (tC (.int 10)) (tC (.int 15)))))) (tCB rAbs (tCons (tVar 2) tNil)) (tC (.int 0))) (gName 5))
  (tRet (tLst (tCons (tVar 5) (tCons (tOp (rI (fun _ j => j ≠ 0) fun i j => .int (i.fmod j)) (tCB rInt1 (tCons (tOp (rI0 fun i j => .int (i + j)) (tVar 3) (tOp (rI IntMulOk fun i j => .int (i * j)) (tC (.int 39119)) (tOp (rI (fun _ j => j ≠ 0) fun i j => .int (i.fmod j)) (tCB rInt1 (tCons (tVar 2) tNil)) (tC (.int 999907))))) tNil)) (tC (.int 2147483563))) (tCons (tC (.int 0)) tNil))))))))
abbrev nm__law_draw : List Str := ["_law_bag_here", "_law_wide", "_law_figure", "_law_held", "_law_times"]
def rd__law_draw (K : PySem.W.Frag) (a : Cl) (E : XK) : TS := (tSeq (tAsg (tOp (rI0 fun i j => .int (i + j)) (tOp (rIxL K) (tVar 0) (tC (.int 2))) (tC (.int 1))) (gSub (tVar 0) (tC (.int 2)) rSetL))
  (tSeq (tIfS (tTest (tOp (rI0 fun i j => .bl (decide (j < i))) (tOp (rIxL K) (tVar 0) (tC (.int 0))) (tC (.int 0)))) (tSeq (tAsg (tOp (rI (fun _ j => j ≠ 0) fun i j => .int (i.fmod j)) (tCB rInt1 (tCons (tOp (rIxL K) (tVar 0) (tC (.int 0))) tNil)) (tVar 1)) (gName 2))
  (tSeq (tAsg (tOp (rI CDivX fun i j => .int (i.fdiv j)) (tOp (rIxL K) (tVar 0) (tC (.int 0))) (tVar 1)) (gSub (tVar 0) (tC (.int 0)) rSetL))
  (tRet (tVar 2)))) tNext)
  (tSeq (tAsg (tOp (rI0 fun i j => .int (i + j)) (tCB rInt1 (tCons (tOp (rIxL K) (tVar 0) (tC (.int 1))) tNil)) (tOp (rI IntMulOk fun i j => .int (i * j)) (tC (.int 104593)) (tOp (rIxL K) (tVar 0) (tC (.int 2))))) (gName 3))
  (tSeq (tAsg (tOp (rI0 fun i j => .int (i + j)) (tOp (rI (fun _ j => j ≠ 0) fun i j => .int (i.fmod j)) (tCB rInt1 (tCons (tVar 3) tNil)) (tC (.int 59951))) (tC (.int 40031))) (gName 4))
  (tSeq (tAsg (tOp (rI (fun _ j => j ≠ 0) fun i j => .int (i.fmod j)) (tCB rInt1 (tCons (tOp (rI0 fun i j => .int (i + j)) (tOp (rI0 fun i j => .int (i + j)) (tOp (rI IntMulOk fun i j => .int (i * j)) (tVar 3) (tVar 4)) (tOp (rI IntMulOk fun i j => .int (i * j)) (tC (.int 11)) (tOp (rIxL K) (tVar 0) (tC (.int 2))))) (tC (.int 17))) tNil)) (tC (.int 2147483563))) (gSub (tVar 0) (tC (.int 1)) rSetL))
  (tRet (tOp (rI (fun _ j => j ≠ 0) fun i j => .int (i.fmod j)) (tOp (rI CDivX fun i j => .int (i.fdiv j)) (tCB rInt1 (tCons (tOp (rIxL K) (tVar 0) (tC (.int 1))) tNil)) (tC (.int 523))) (tVar 1))))))))
abbrev nm__law_one : List Str := ["_law_bag_here", "_law_some"]
def rd__law_one (K : PySem.W.Frag) (a : Cl) (E : XK) : TS := (tRet (tOp (rIx K) (tVar 1) (tCall (sp__law_draw K a) [] E (tCons (tVar 0) (tCons (tCB (rLen K) (tCons (tVar 1) tNil)) tNil)))))
abbrev nm__law_lowest : List Str := ["_law_upper", "_law_lower", "_law_one_here", "_law_two", "_law_by"]
def rd__law_lowest (K : PySem.W.Frag) (a : Cl) (E : XK) : TS := (tSeq (tPar 2 3 (tCons (tCB rAbs (tCons (tVar 0) tNil)) (tCons (tCB rAbs (tCons (tVar 1) tNil)) tNil)))
  (tSeq (tWhile (tTest (tOp (rI0 fun i j => .bl (decide (j < i))) (tVar 3) (tC (.int 0)))) (tPar 2 3 (tCons (tVar 3) (tCons (tOp (rI (fun _ j => j ≠ 0) fun i j => .int (i.fmod j)) (tCB rInt1 (tCons (tVar 2) tNil)) (tVar 3)) tNil))))
  (tSeq (tAsg (tIf (tTest (tOp (rI0 fun i j => .bl (decide (j < i))) (tVar 1) (tC (.int 0)))) (tVar 2) (tOp (rI0 fun i j => .int (i - j)) (tC (.int 0)) (tVar 2))) (gName 4))
  (tRet (tTup (tCons (tOp (rI CDivX fun i j => .int (i.fdiv j)) (tVar 0) (tVar 4)) (tCons (tOp (rI CDivX fun i j => .int (i.fdiv j)) (tVar 1) (tVar 4)) tNil)))))))
local macro_rules | `(tactic| walk_at "up") => `(tactic| first | assumption | exact upd_same | (apply SL.RatAt.up; assumption; walk_at "up") | (apply SL.Same.at; assumption; walk_at "up"))
local macro_rules | `(tactic| walk_at "s0") => `(tactic| first
  | with_reducible refine SL.go_var (by with_unfolding_all rfl) ?_
  | with_reducible refine SL.go_seq ?_
  | with_reducible refine SL.go_next ?_
  | with_reducible refine SL.go_asg ?_
  | with_reducible refine SL.go_gname ?_
  | with_reducible refine SL.go_ret ?_
  | with_reducible refine SL.go_drop ?_
  | with_reducible refine SL.go_ifs ?_
  | with_reducible refine SL.go_c ?_
  | with_reducible refine SL.go_op ?_
  | with_reducible refine SL.go_un ?_
  | with_reducible refine SL.go_I0 ?_
  | with_reducible refine SL.go_U ?_
  | with_reducible refine SL.go_test ?_
  | with_reducible refine SL.go_tb ?_
  | with_reducible refine SL.go_bl ?_
  | with_reducible refine SL.go_eqI ?_
  | with_reducible refine SL.go_neI ?_
  | with_reducible refine SL.go_eqB ?_
  | with_reducible refine SL.go_neB ?_
  | with_reducible refine SL.go_eqS ?_
  | with_reducible refine SL.go_neS ?_
  | with_reducible refine SL.go_and ?_
  | with_reducible refine SL.go_or ?_
  | with_reducible refine SL.go_not ?_
  | with_reducible refine SL.go_andV ?_
  | with_reducible refine SL.go_orV ?_
  | with_reducible refine SL.go_notV ?_
  | with_reducible refine SL.go_if ?_
  | with_reducible refine SL.go_T ?_
  | with_reducible refine SL.go_F ?_
  | with_reducible refine SL.go_nT ?_
  | with_reducible refine SL.go_nF ?_
  | with_reducible refine SL.go_nil ?_
  | with_reducible refine SL.go_cons ?_
  | with_reducible refine SL.go_call ?_
  | with_reducible refine SL.go_cb ?_
  | with_reducible refine SL.go_par ?_
  | with_reducible refine SL.go_pair ?_
  | with_reducible refine SL.go_tup ?_
  | with_reducible refine SL.go_lst ?_
  | with_reducible refine SL.go_fldC ?_
  | with_reducible refine SL.go_sfld ?_
  | with_reducible refine SL.go_sub ?_
  | with_reducible refine SL.go_sl ?_
  | with_reducible refine SL.go_noPart ?_
  | with_reducible refine SL.go_part ?_
  | with_reducible refine SL.go_partE ?_
  | with_reducible refine SL.go_abs ?_
  | with_reducible refine SL.go_max2 ?_
  | with_reducible refine SL.go_min2 ?_
  | with_reducible refine SL.go_int ?_
  | with_reducible refine SL.go_intB ?_
  | with_reducible refine SL.go_bm ?_
  | with_reducible refine SL.go_meth ?_
  | with_reducible refine SL.go_methN ?_
  | with_reducible refine SL.go_make ?_
  | with_reducible refine SL.go_makeK ?_
  | with_reducible refine SL.go_for ?_
  | with_reducible refine SL.go_iList ?_
  | with_reducible refine SL.go_iTup ?_
  | with_reducible refine SL.go_iRng1 ?_
  | with_reducible refine SL.go_iRng2 ?_
  | with_reducible refine SL.go_lc ?_
  | with_reducible refine SL.go_yes ?_)
local macro_rules | `(tactic| walk_at "go") => `(tactic| repeat walk_at "s0")
local macro_rules | `(tactic| walk_at "nw") => `(tactic| (refine ⟨SL.szL (by simp), fun p n => ?_⟩; generalize q : upd _ p _ = H'; have e := SL.Same.new' n q; have h := SL.at_new q; clear q))
local macro_rules | `(tactic| walk_at "nw0") => `(tactic| (intro p n; generalize q : upd _ p _ = H'; have e := SL.Same.new' n q; have h := SL.at_new q; clear q))
section
variable {K : PySem.W.Frag} {a : Cl} {vs : List V} {H : Hp} {Q : VK} {E : XK}
theorem mulL {i j : Int} (h : -(2 ^ 64) < i ∧ i < 2 ^ 64) : IntMulOk i j := CMul.ok (.inl h)
theorem mulR {i j : Int} (h : -(2 ^ 64) < j ∧ j < 2 ^ 64) : IntMulOk i j := CMul.ok (.inr h)
theorem Bd.cdiv {x w : Int} {k : Nat} (h : w ≠ 0) (hb : Bd k w) (h0 : 0 < k := by decide) (hk : k ≤ 9000 := by decide) : CDivX x w := ⟨h, Nat.lt_of_lt_of_le (PySem.Flt.log2_lt_of h0 hb) hk⟩
theorem fmod_nn {x w : Int} (h : 0 < w) : 0 ≤ x.fmod w ∧ x.fmod w < w := by
  rw [Int.fmod_eq_emod_of_nonneg x (by omega)]
  exact ⟨Int.emod_nonneg x (by omega), Int.emod_lt_of_pos x h⟩
theorem read__law_draw (h : sp__law_draw K a vs H Q E) : rd__law_draw K a E (ends Q) (start nm__law_draw vs) H := by
  obtain ⟨b, w, rfl, ⟨f, s, c, hb⟩, hw, hbw, k⟩ := h
  have fin : ∀ r f' s' c' : Int, 0 ≤ r → r < w → Q (.int r) (upd H b (.lst [.int f', .int s', .int c'])) := fun r f' s' c' h0 h1 =>
    k r _ h0 h1 ⟨⟨f, s, c, hb⟩, ⟨f', s', c', upd_same⟩, fun p o n e => by rw [upd_ne n]; exact e⟩
  unfold rd__law_draw
  walk_at "go"
  refine go_ixL (SqL.of hb) rfl ?_
  walk_at "go"
  refine go_setL hb rfl ?_
  walk_at "go"
  refine go_ixL (SqL.of upd_same) rfl ?_
  walk_at "go"
  refine go_d (fun hf => ?_) (fun hf => ?_)
  · walk_at "go"
    refine go_ixL (SqL.of upd_same) rfl ?_
    walk_at "go"
    refine go_I (by omega) ?_
    walk_at "go"
    refine go_ixL (SqL.of upd_same) rfl ?_
    walk_at "go"
    refine go_I (hbw.cdiv (by omega)) ?_
    walk_at "go"
    refine go_setL upd_same rfl ?_
    walk_at "go"
    rw [upd_upd]
    exact fin _ _ _ _ (fmod_nn hw).1 (fmod_nn hw).2
  · walk_at "go"
    refine go_ixL (SqL.of upd_same) rfl ?_
    walk_at "go"
    refine go_ixL (SqL.of upd_same) rfl ?_
    refine go_I (mulL ⟨by decide, by decide⟩) ?_
    walk_at "go"
    refine go_I (by decide) ?_
    walk_at "go"
    have hm := fmod_nn (x := s + 104593 * (c + 1)) (w := 59951) (by decide)
    refine go_I (mulR ⟨by omega, by omega⟩) ?_
    walk_at "go"
    refine go_ixL (SqL.of upd_same) rfl ?_
    refine go_I (mulL ⟨by decide, by decide⟩) ?_
    walk_at "go"
    refine go_I (by decide) ?_
    walk_at "go"
    refine go_setL upd_same rfl ?_
    walk_at "go"
    refine go_ixL (SqL.of upd_same) rfl ?_
    walk_at "go"
    refine go_I (Bd.cdiv (k := 64) (by decide) (Bd.small (by decide) (by decide) (by decide))) ?_
    walk_at "go"
    refine go_I (by omega) ?_
    rw [upd_upd]
    exact fin _ _ _ _ (fmod_nn hw).1 (fmod_nn hw).2
theorem atI_some {α : Type} {xs : List α} {r : Int} (h0 : 0 ≤ r) (h1 : r < xs.length) : ∃ x, atI xs r = some x ∧ x ∈ xs := by
  obtain ⟨j, rfl⟩ : ∃ j : Nat, r = j := ⟨r.toNat, by omega⟩
  have hl : j < xs.length := by omega
  exact ⟨xs[j], atI_nat (List.getElem?_eq_getElem hl), List.getElem_mem hl⟩
theorem read__law_one (h : sp__law_one K a vs H Q E) : rd__law_one K a E (ends Q) (start nm__law_one vs) H := by
  obtain ⟨b, v, xs, rfl, hb, hs, hs', hne, hl, k⟩ := h
  have hpos : 0 < xs.length := by
    cases xs with
    | nil => exact absurd rfl hne
    | cons x r => simp
  unfold rd__law_one
  walk_at "go"
  have len : ∀ R : VK, R (.int xs.length) H → rLen K [v] H R := fun R r => by
    cases hs with
    | lst h => exact go_lenL h r
    | tup h => exact go_lenT h r
    | str z h => exact go_lenS (Nat.le_trans h (by decide)) (by simpa [Str.length] using r)
  refine len _ ?_
  walk_at "go"
  refine ⟨b, xs.length, rfl, hb, by omega, Bd.small (by decide) (by omega) (by omega), fun r H1 h0 h1 g => ?_⟩
  have hs1 := hs' H1 g
  cases hs1 with
  | lst h =>
    obtain ⟨x, e, hm⟩ := atI_some h0 h1
    exact .inl (go_ixL h e (k x H1 hm g))
  | tup h =>
    obtain ⟨x, e, hm⟩ := atI_some h0 h1
    exact .inr (.inl (go_ixT h e (k x H1 hm g)))
  | str z h =>
    rw [List.length_map] at h1
    obtain ⟨x, e, hm⟩ := atI_some h0 h1
    exact .inr (.inr ⟨z, r, x, rfl, rfl, Nat.le_trans h (by decide), e, k _ H1 (List.mem_map.mpr ⟨x, hm, rfl⟩) g⟩)
theorem lowN_eq {n d g : Int} (hd : d ≠ 0) (hg : g = gI n d) : n.fdiv (if 0 < d then g else 0 - g) = lowN n d ∧ d.fdiv (if 0 < d then g else 0 - g) = lowD n d := by
  have g0 := gI_pos (n := n) hd
  have e : gI (-n) (-d) = gI n d := by unfold gI; simp
  subst hg
  unfold lowN lowD
  split
  · rw [Int.fdiv_eq_ediv_of_nonneg n (by omega), Int.fdiv_eq_ediv_of_nonneg d (by omega)]
    exact ⟨rfl, rfl⟩
  · unfold nm dn
    rw [e]
    have q : ∀ x : Int, gI n d ∣ x → x.fdiv (0 - gI n d) = -x / gI n d := fun x hx => by
      rw [Int.zero_sub, Int.fdiv_eq_ediv_of_dvd (Int.neg_dvd.mpr hx), Int.ediv_neg, Int.neg_ediv_of_dvd hx]
    exact ⟨q n (gI_dvd_left n d), q d (gI_dvd_right n d)⟩
theorem read__law_lowest (h : sp__law_lowest K a vs H Q E) : rd__law_lowest K a E (ends Q) (start nm__law_lowest vs) H := by
  obtain ⟨n, d, rfl, hd, hb, k⟩ := h
  unfold rd__law_lowest
  walk_at "go"
  refine ⟨fun m σ H' => ∃ x y : Int, σ = [some (.int n), some (.int d), some (.int x), some (.int y), none] ∧ H' = H ∧ 0 ≤ x ∧ 0 ≤ y ∧ gI x y = gI n d ∧ m = y.toNat, ⟨_, _, _, rfl, rfl, by split <;> omega, by split <;> omega, gI_abs n d, rfl⟩, ?_⟩
  rintro m σ H' ⟨x, y, rfl, rfl, hx, hy, hg, rfl⟩
  walk_at "go"
  refine go_d (fun hy0 => ?_) (fun hy0 => ?_)
  · refine ⟨fun σ' H'' => ∃ m', m' < y.toNat ∧ ∃ x y : Int, σ' = [some (.int n), some (.int d), some (.int x), some (.int y), none] ∧ H'' = H' ∧ 0 ≤ x ∧ 0 ≤ y ∧ gI x y = gI n d ∧ m' = y.toNat, fun _ _ h => h, ?_⟩
    walk_at "go"
    refine go_I (by omega) ?_
    walk_at "go"
    have e : x.fmod y = x % y := Int.fmod_eq_emod_of_nonneg x (by omega)
    have l1 := Int.emod_nonneg x (show y ≠ 0 by omega)
    have l2 := Int.emod_lt_of_pos x hy0
    refine ⟨(x.fmod y).toNat, by omega, y, x.fmod y, rfl, rfl, hy, by omega, ?_, rfl⟩
    rw [gcd_turn hx hy0]
    exact hg
  · walk_at "go"
    have e : y = 0 := by omega
    subst e
    rw [gI_zero hx] at hg
    have key : ∀ (R : V → Hp → Prop), R (.int (if 0 < d then x else 0 - x)) H' → (if decide (0 < d) = true then tVar 2 ([some (.int n), some (.int d), some (.int x), some (.int 0), none] : L2.St) H' R else tOp (rI0 fun i j => .int (i - j)) (tC (.int 0)) (tVar 2) ([some (.int n), some (.int d), some (.int x), some (.int 0), none] : L2.St) H' R) := fun R r => by
      refine go_d (fun e => ?_) (fun e => ?_)
      · rw [if_pos e] at r; walk_at "go"; exact r
      · rw [if_neg e] at r
        walk_at "go"
        exact r
    refine key _ ?_
    have g0 := gI_pos (n := n) hd
    have gd : (gI n d).natAbs ≤ d.natAbs := by
      have h1 : gI n d ∣ d := gI_dvd_right n d
      exact Nat.le_of_dvd (by omega) (Int.natAbs_dvd_natAbs.mpr h1)
    have c : ∀ z, CDivX z (if 0 < d then x else 0 - x) := fun z => Bd.cdiv (k := 8000) (by split <;> omega) (hb.of_le (by split <;> omega))
    have le := lowN_eq hd hg
    walk_at "go"
    refine go_I (c n) ?_
    walk_at "go"
    refine go_I (c d) ?_
    walk_at "go"
    rw [le.1, le.2]
    exact go_newT (by show 2 ≤ 1000; decide) k
theorem cutV_len (xs : List V) (lo hi : Option Int) (i : Nat) (v : V) (h : (cutV xs lo hi)[i]? = some v) : v ∈ xs := by
  have m := List.mem_of_getElem? h
  unfold cutV at m
  exact List.mem_of_mem_drop (List.mem_of_mem_take m)
theorem read__law_bag (h : sp__law_bag K a vs H Q E) : rd__law_bag K a E (ends Q) (start nm__law_bag vs) H := by
  obtain ⟨p, ns, k, rfl, hp, q⟩ := h
  unfold rd__law_bag
  walk_at "go"
  refine go_lenL hp ?_
  walk_at "go"
  refine go_join (P := fun v => ∃ z : Int, v = .int z) (fun e R r => ?_) (fun e R r => ?_) ?_
  · have e := of_decide_eq_true e
    obtain ⟨x, e1, e2⟩ := atI_some (xs := ns.map V.int) (r := (k : Int)) (by omega) e
    obtain ⟨z, _, rfl⟩ := List.mem_map.mp e2
    walk_at "go"
    refine go_ixL hp e1 ?_
    walk_at "go"
    exact r _ ⟨z, rfl⟩
  · exact r _ ⟨0, rfl⟩
  rintro _ ⟨cell, rfl⟩
  walk_at "go"
  refine go_I (mulL ⟨by decide, by decide⟩) ?_
  walk_at "go"
  refine go_slL hp fun l H1 nl e1 hl => ?_
  refine ⟨l, rfl, ⟨_, SqL.of hl⟩, for_list (K := K) (a := l) (xs := cutV (ns.map V.int) none (some 7)) (fun _ σ H2 => ∃ (z : Int) (t : Option V), σ = [some (.ref p), some (.int k), some (.int cell), some (.int z), t, none] ∧ H2 = H1) ⟨_, none, rfl, rfl⟩ ?_ ?_ ?_⟩
  · rintro i σ H2 _ ⟨z, t, rfl, rfl⟩
    exact SqL.of hl
  · rintro i x σ H2 hx ⟨z, t, rfl, rfl⟩
    obtain ⟨y, _, rfl⟩ := List.mem_map.mp (cutV_len _ _ _ _ _ hx)
    walk_at "go"
    refine go_I (mulR ⟨by decide, by decide⟩) ?_
    walk_at "go"
    refine go_I (by decide) ?_
    walk_at "go"
    refine go_I (mulL ⟨by decide, by decide⟩) ?_
    walk_at "go"
    refine go_I (by decide) ?_
    walk_at "go"
    exact ⟨_, _, rfl, rfl⟩
  · rintro σ H2 ⟨z, t, rfl, rfl⟩
    walk_at "go"
    refine go_d (fun e => ?_) (fun e => ?_)
    rotate_left
    walk_at "go"
    refine go_I ⟨by decide, by decide, by decide⟩ ?_
    walk_at "go"
    refine go_d (fun e => ?_) (fun e => ?_)
    all_goals
      walk_at "go"
      refine go_I (by decide) ?_
      refine go_I (mulL ⟨by decide, by decide⟩) ?_
      walk_at "go"
      refine go_I (by decide) ?_
      walk_at "go"
      exact go_newL (by show 3 ≤ 1000; decide) fun b H3 nb e3 hb => q b H3 (e1.free nb) (L2.Same.trans e1 e3) ⟨_, _, _, hb⟩
/-! ### equal data -/
theorem ne_same {x y : V} {d : PyData} (hx : Dp K H x d) (hy : Dp K H y d) (hs : SeqAt.shaped d = true) (q : Q (.bl false) H) : rNeD K x y H Q := by
  refine ⟨d, d, hx, hy, hs, hs, ?_⟩
  rw [SeqAt.eqv_refl d (SeqAt.canLay_of_shaped hs)]
  exact q
theorem eq_same {x y : V} {d : PyData} (hx : Dp K H x d) (hy : Dp K H y d) (hs : SeqAt.shaped d = true) (q : Q (.bl true) H) : rEqD K x y H Q := by
  refine ⟨d, d, hx, hy, hs, hs, ?_⟩
  rw [SeqAt.eqv_refl d (SeqAt.canLay_of_shaped hs)]
  exact q
theorem dp_pair {p : Addr} {n d : Int} (h : H p = some (.tup [.int n, .int d])) : Dp K H (.ref p) (.tuple [.int n, .int d]) := .tup (SqT.of h) (.cons (.int n) (.cons (.int d) .nil))
theorem sh_pair (n d : Int) : SeqAt.shaped (.tuple [.int n, .int d]) = true := by rfl
end
end SL

set_option Elab.async false
set_option linter.all false
set_option maxRecDepth 100000
set_option maxHeartbeats 4000000
namespace SL
/-! ### reckoning with lowest terms and with any terms gives the same -/
section
variable {n1 d1 n2 d2 : Int}
theorem low_add (h1 : 0 < d1) (h2 : 0 < d2) : nm (nm n1 d1 * dn n2 d2 + nm n2 d2 * dn n1 d1) (dn n1 d1 * dn n2 d2) = nm (n1 * d2 + n2 * d1) (d1 * d2) ∧ dn (nm n1 d1 * dn n2 d2 + nm n2 d2 * dn n1 d1) (dn n1 d1 * dn n2 d2) = dn (n1 * d2 + n2 * d1) (d1 * d2) := by
  refine nm_dn_eq (Int.mul_pos (dn_pos h1) (dn_pos h2)) (Int.mul_pos h1 h2) ?_
  have c1 := nm_cross n1 d1
  have c2 := nm_cross n2 d2
  rw [Int.add_mul, Int.add_mul]
  congr 1
  · calc nm n1 d1 * dn n2 d2 * (d1 * d2) = (nm n1 d1 * d1) * (dn n2 d2 * d2) := by ac_rfl
      _ = (n1 * dn n1 d1) * (dn n2 d2 * d2) := by rw [c1]
      _ = n1 * d2 * (dn n1 d1 * dn n2 d2) := by ac_rfl
  · calc nm n2 d2 * dn n1 d1 * (d1 * d2) = (nm n2 d2 * d2) * (dn n1 d1 * d1) := by ac_rfl
      _ = (n2 * dn n2 d2) * (dn n1 d1 * d1) := by rw [c2]
      _ = n2 * d1 * (dn n1 d1 * dn n2 d2) := by ac_rfl
theorem low_sub (h1 : 0 < d1) (h2 : 0 < d2) : nm (nm n1 d1 * dn n2 d2 - nm n2 d2 * dn n1 d1) (dn n1 d1 * dn n2 d2) = nm (n1 * d2 - n2 * d1) (d1 * d2) ∧ dn (nm n1 d1 * dn n2 d2 - nm n2 d2 * dn n1 d1) (dn n1 d1 * dn n2 d2) = dn (n1 * d2 - n2 * d1) (d1 * d2) := by
  refine nm_dn_eq (Int.mul_pos (dn_pos h1) (dn_pos h2)) (Int.mul_pos h1 h2) ?_
  have c1 := nm_cross n1 d1
  have c2 := nm_cross n2 d2
  rw [Int.sub_mul, Int.sub_mul]
  congr 1
  · calc nm n1 d1 * dn n2 d2 * (d1 * d2) = (nm n1 d1 * d1) * (dn n2 d2 * d2) := by ac_rfl
      _ = (n1 * dn n1 d1) * (dn n2 d2 * d2) := by rw [c1]
      _ = n1 * d2 * (dn n1 d1 * dn n2 d2) := by ac_rfl
  · calc nm n2 d2 * dn n1 d1 * (d1 * d2) = (nm n2 d2 * d2) * (dn n1 d1 * d1) := by ac_rfl
      _ = (n2 * dn n2 d2) * (dn n1 d1 * d1) := by rw [c2]
      _ = n2 * d1 * (dn n1 d1 * dn n2 d2) := by ac_rfl
theorem low_mul (h1 : 0 < d1) (h2 : 0 < d2) : nm (nm n1 d1 * nm n2 d2) (dn n1 d1 * dn n2 d2) = nm (n1 * n2) (d1 * d2) ∧ dn (nm n1 d1 * nm n2 d2) (dn n1 d1 * dn n2 d2) = dn (n1 * n2) (d1 * d2) := by
  refine nm_dn_eq (Int.mul_pos (dn_pos h1) (dn_pos h2)) (Int.mul_pos h1 h2) ?_
  have c1 := nm_cross n1 d1
  have c2 := nm_cross n2 d2
  calc nm n1 d1 * nm n2 d2 * (d1 * d2) = (nm n1 d1 * d1) * (nm n2 d2 * d2) := by ac_rfl
    _ = (n1 * dn n1 d1) * (n2 * dn n2 d2) := by rw [c1, c2]
    _ = n1 * n2 * (dn n1 d1 * dn n2 d2) := by ac_rfl
theorem low_neg (h1 : 0 < d1) : nm (-nm n1 d1) (dn n1 d1) = nm (-n1) d1 ∧ dn (-nm n1 d1) (dn n1 d1) = dn (-n1) d1 := by
  refine nm_dn_eq (dn_pos h1) h1 ?_
  rw [Int.neg_mul, Int.neg_mul, nm_cross]
theorem low_one (h1 : 0 < d1) : nm (nm n1 d1) (dn n1 d1) = nm n1 d1 ∧ dn (nm n1 d1) (dn n1 d1) = dn n1 d1 := low_self (dn_pos h1) (nm_dn_gcd (by omega))
theorem sgn_sq {n : Int} (h : n ≠ 0) : sgn n * sgn n = 1 := by unfold sgn; split <;> decide
theorem low_over (h1 : 0 < d1) (h2 : 0 < d2) (h : n2 ≠ 0) (s t : Int) (hs : s = sgn n2) (ht : t = sgn n2) : nm (s * nm n1 d1 * dn n2 d2) (s * dn n1 d1 * nm n2 d2) = nm (t * n1 * d2) (t * d1 * n2) ∧ dn (s * nm n1 d1 * dn n2 d2) (s * dn n1 d1 * nm n2 d2) = dn (t * n1 * d2) (t * d1 * n2) := by
  subst hs ht
  have g2 := gI_pos (n := n2) (d := d2) (by omega)
  have m2 := nm_mul n2 d2
  have hn : nm n2 d2 ≠ 0 := fun e => by rw [e] at m2; simp at m2; omega
  have sg : sgn (nm n2 d2) = sgn n2 := by
    unfold sgn
    by_cases q : 0 < nm n2 d2
    · have : 0 < n2 := by rw [← m2]; exact Int.mul_pos q g2
      rw [if_pos q, if_pos this]
    · have : ¬ 0 < n2 := fun z => by
        have : nm n2 d2 * gI n2 d2 ≤ 0 := Int.mul_nonpos_of_nonpos_of_nonneg (by omega) (by omega)
        omega
      rw [if_neg q, if_neg this]
  have p1 : 0 < sgn n2 * dn n1 d1 * nm n2 d2 := by rw [← sg]; exact sgn_pos hn (dn_pos h1)
  refine nm_dn_eq p1 (sgn_pos h h1) ?_
  have c1 := nm_cross n1 d1
  have c2 := nm_cross n2 d2
  calc sgn n2 * nm n1 d1 * dn n2 d2 * (sgn n2 * d1 * n2) = sgn n2 * sgn n2 * (nm n1 d1 * d1) * (n2 * dn n2 d2) := by ac_rfl
    _ = sgn n2 * sgn n2 * (n1 * dn n1 d1) * (nm n2 d2 * d2) := by rw [c1, ← c2]
    _ = sgn n2 * n1 * d2 * (sgn n2 * dn n1 d1 * nm n2 d2) := by ac_rfl
theorem sgn_nm (h2 : 0 < d2) (h : n2 ≠ 0) : sgn (nm n2 d2) = sgn n2 ∧ nm n2 d2 ≠ 0 := by
  have g2 := gI_pos (n := n2) (d := d2) (by omega)
  have m2 := nm_mul n2 d2
  have hn : nm n2 d2 ≠ 0 := fun e => by rw [e] at m2; simp at m2; omega
  refine ⟨?_, hn⟩
  unfold sgn
  by_cases q : 0 < nm n2 d2
  · have : 0 < n2 := by rw [← m2]; exact Int.mul_pos q g2
    rw [if_pos q, if_pos this]
  · have : ¬ 0 < n2 := fun z => by
      have : nm n2 d2 * gI n2 d2 ≤ 0 := Int.mul_nonpos_of_nonpos_of_nonneg (by omega) (by omega)
      omega
    rw [if_neg q, if_neg this]
theorem cmpI_scale {x y g : Int} (h : 0 < g) : cmpI (x * g) (y * g) = cmpI x y := by
  unfold cmpI
  by_cases e : x = y
  · subst e; simp
  · have e' : ¬ x * g = y * g := fun q => e (Int.eq_of_mul_eq_mul_right (by omega) q)
    rw [if_neg e, if_neg e']
    by_cases l : x < y
    · rw [if_pos l, if_pos (Int.mul_lt_mul_of_pos_right l h)]
    · have l' : ¬ x * g < y * g := fun q => l (Int.lt_of_mul_lt_mul_right q (by omega))
      rw [if_neg l, if_neg l']
theorem low_cmp (h1 : 0 < d1) (h2 : 0 < d2) : cmpI (nm n1 d1 * dn n2 d2) (nm n2 d2 * dn n1 d1) = cmpI (n1 * d2) (n2 * d1) := by
  have g1 := gI_pos (n := n1) (d := d1) (by omega)
  have g2 := gI_pos (n := n2) (d := d2) (by omega)
  have e1 : n1 * d2 = nm n1 d1 * dn n2 d2 * (gI n1 d1 * gI n2 d2) := by
    calc n1 * d2 = (nm n1 d1 * gI n1 d1) * (dn n2 d2 * gI n2 d2) := by rw [nm_mul, dn_mul]
      _ = _ := by ac_rfl
  have e2 : n2 * d1 = nm n2 d2 * dn n1 d1 * (gI n1 d1 * gI n2 d2) := by
    calc n2 * d1 = (nm n2 d2 * gI n2 d2) * (dn n1 d1 * gI n1 d1) := by rw [nm_mul, dn_mul]
      _ = _ := by ac_rfl
  rw [e1, e2, cmpI_scale (Int.mul_pos g1 g2)]
theorem low_eq (h1 : 0 < d1) (h2 : 0 < d2) : (decide (nm n1 d1 = nm n2 d2) && decide (dn n1 d1 = dn n2 d2)) = decide (n1 * d2 = n2 * d1) := by
  by_cases e : n1 * d2 = n2 * d1
  · have := nm_dn_eq h1 h2 e
    simp [this.1, this.2, e]
  · have : ¬ (nm n1 d1 = nm n2 d2 ∧ dn n1 d1 = dn n2 d2) := fun ⟨q1, q2⟩ => e (by
      have g1 := nm_mul n1 d1
      have c1 := nm_cross n1 d1
      have c2 := nm_cross n2 d2
      have dp := dn_pos (n := n1) h1
      have : (n1 * d2) * dn n1 d1 = (n2 * d1) * dn n1 d1 := by
        calc (n1 * d2) * dn n1 d1 = (n1 * dn n1 d1) * d2 := by ac_rfl
          _ = (nm n1 d1 * d1) * d2 := by rw [c1]
          _ = (nm n2 d2 * d2) * d1 := by rw [q1]; ac_rfl
          _ = (n2 * dn n2 d2) * d1 := by rw [c2]
          _ = (n2 * d1) * dn n1 d1 := by rw [q2]; ac_rfl
      exact Int.eq_of_mul_eq_mul_right (by omega) this)
    rw [decide_eq_false e]
    by_cases q1 : nm n1 d1 = nm n2 d2
    · by_cases q2 : dn n1 d1 = dn n2 d2
      · exact absurd ⟨q1, q2⟩ this
      · simp [q2]
    · simp [q1]
theorem order_eq (x y : Int) : (if decide (y < x) then (1 : Int) else 0) - (if decide (x < y) then 1 else 0) = cmpI x y := by
  unfold cmpI
  by_cases e : x = y
  · subst e; simp
  · by_cases l : x < y
    · have : ¬ y < x := by omega
      simp [e, l, this]
    · have : y < x := by omega
      simp [e, l, this]
theorem low_int (m : Int) : nm m 1 = m ∧ dn m 1 = 1 := low_self (by decide) (by simp)
variable {m : Int}
theorem low_addI (h1 : 0 < d1) : nm (nm n1 d1 * 1 + m * dn n1 d1) (dn n1 d1 * 1) = nm (n1 + m * d1) d1 ∧ dn (nm n1 d1 * 1 + m * dn n1 d1) (dn n1 d1 * 1) = dn (n1 + m * d1) d1 := by
  have h := low_add (n1 := n1) (d1 := d1) (n2 := m) (d2 := 1) h1 (by decide)
  rw [(low_int m).1, (low_int m).2, Int.mul_one n1, Int.mul_one d1] at h
  exact h
theorem low_raddI (h1 : 0 < d1) : nm (m * dn n1 d1 + nm n1 d1 * 1) (1 * dn n1 d1) = nm (n1 + m * d1) d1 ∧ dn (m * dn n1 d1 + nm n1 d1 * 1) (1 * dn n1 d1) = dn (n1 + m * d1) d1 := by
  have h := low_addI (n1 := n1) (m := m) h1
  rw [Int.add_comm, Int.mul_comm (dn n1 d1) 1] at h
  exact h
theorem low_subI (h1 : 0 < d1) : nm (nm n1 d1 * 1 - m * dn n1 d1) (dn n1 d1 * 1) = nm (n1 - m * d1) d1 ∧ dn (nm n1 d1 * 1 - m * dn n1 d1) (dn n1 d1 * 1) = dn (n1 - m * d1) d1 := by
  have h := low_sub (n1 := n1) (d1 := d1) (n2 := m) (d2 := 1) h1 (by decide)
  rw [(low_int m).1, (low_int m).2, Int.mul_one n1, Int.mul_one d1] at h
  exact h
theorem low_rsubI (h1 : 0 < d1) : nm (m * dn n1 d1 - nm n1 d1 * 1) (1 * dn n1 d1) = nm (m * d1 - n1) d1 ∧ dn (m * dn n1 d1 - nm n1 d1 * 1) (1 * dn n1 d1) = dn (m * d1 - n1) d1 := by
  have h := low_sub (n1 := m) (d1 := 1) (n2 := n1) (d2 := d1) (by decide) h1
  rw [(low_int m).1, (low_int m).2, Int.mul_one n1, Int.one_mul d1] at h
  exact h
theorem low_mulI (h1 : 0 < d1) : nm (nm n1 d1 * m) (dn n1 d1 * 1) = nm (n1 * m) d1 ∧ dn (nm n1 d1 * m) (dn n1 d1 * 1) = dn (n1 * m) d1 := by
  have h := low_mul (n1 := n1) (d1 := d1) (n2 := m) (d2 := 1) h1 (by decide)
  rw [(low_int m).1, (low_int m).2, Int.mul_one d1] at h
  exact h
theorem low_rmulI (h1 : 0 < d1) : nm (m * nm n1 d1) (1 * dn n1 d1) = nm (n1 * m) d1 ∧ dn (m * nm n1 d1) (1 * dn n1 d1) = dn (n1 * m) d1 := by
  have h := low_mulI (n1 := n1) (m := m) h1
  rw [Int.mul_comm (nm n1 d1) m, Int.mul_comm (dn n1 d1) 1] at h
  exact h
theorem low_cmpI (h1 : 0 < d1) : cmpI (nm n1 d1 * 1) (m * dn n1 d1) = cmpI n1 (m * d1) := by
  have h := low_cmp (n1 := n1) (d1 := d1) (n2 := m) (d2 := 1) h1 (by decide)
  rw [(low_int m).1, (low_int m).2, Int.mul_one n1] at h
  exact h
theorem low_eqI (h1 : 0 < d1) : (decide (nm n1 d1 = m) && decide (dn n1 d1 = 1)) = decide (n1 = m * d1) := by
  have h := low_eq (n1 := n1) (d1 := d1) (n2 := m) (d2 := 1) h1 (by decide)
  rw [(low_int m).1, (low_int m).2, Int.mul_one n1] at h
  exact h
theorem low_overI (h1 : 0 < d1) (h : m ≠ 0) : nm (sgn m * nm n1 d1 * 1) (sgn m * dn n1 d1 * m) = nm (sgn m * n1 * 1) (sgn m * d1 * m) ∧ dn (sgn m * nm n1 d1 * 1) (sgn m * dn n1 d1 * m) = dn (sgn m * n1 * 1) (sgn m * d1 * m) := by
  have q := low_over (n1 := n1) (d1 := d1) (n2 := m) (d2 := 1) h1 (by decide) h _ _ rfl rfl
  rw [(low_int m).1, (low_int m).2] at q
  exact q
end
end SL

set_option Elab.async false
set_option linter.all false
set_option maxRecDepth 100000
set_option maxHeartbeats 4000000
namespace SL
open PySem L2 PySem.Spec PyProof.Rows

/-! ### law k01 -/
def PairOk (n d : Int) : Prop := -1000000000 ≤ n ∧ n ≤ 1000000000 ∧ 1 ≤ d ∧ d ≤ 60
def sp__law_pair (K : PySem.W.Frag) (a : Cl) : Sp := fun vs H Q _ => ∃ b, vs = [.ref b] ∧ BagAt H b ∧ ∀ p n d H', Grow b H H' → H' p = some (.tup [.int n, .int d]) → PairOk n d → Q (.ref p) H'
def sp__law_parts (K : PySem.W.Frag) (a : Cl) : Sp := fun vs H Q _ => ∃ p n d, vs = [.ref p] ∧ RatAt a H p n d ∧ ∀ q H', H q = none → L2.Same H H' → H' q = some (.tup [.int n, .int d]) → Q (.ref q) H'
def sp__law_pair_right (K : PySem.W.Frag) (a : Cl) : Sp := fun vs H Q _ => ∃ p q n1 d1 n2 d2, vs = [.ref p, .ref q] ∧ H p = some (.tup [.int n1, .int d1]) ∧ H q = some (.tup [.int n2, .int d2]) ∧ PairOk n1 d1 ∧ PairOk n2 d2 ∧ ∀ H', L2.Same H H' → Q (.bl true) H'
def sp__law_whole_right (K : PySem.W.Frag) (a : Cl) : Sp := fun vs H Q _ => ∃ p n1 d1 m, vs = [.ref p, .int m] ∧ H p = some (.tup [.int n1, .int d1]) ∧ PairOk n1 d1 ∧ -1000000000 ≤ m ∧ m ≤ 1000000000 ∧ ∀ H', L2.Same H H' → Q (.bl true) H'
def sp__law_right (K : PySem.W.Frag) (a : Cl) : Sp := fun vs H Q _ => ∃ b, vs = [.ref b] ∧ BagAt H b ∧ ∀ H', Grow b H H' → Q (.bl true) H'
def sp_law (K : PySem.W.Frag) (a : Cl) : Sp := fun vs H Q _ => ∃ (p : Addr) (ns : List Int), vs = [.ref p] ∧ SqL K H p (ns.map V.int) ∧ ns.length ≤ 63 ∧ ∀ H', Q (.bl true) H'
def gv_Ratio___init___0_bottom_top : List V → List V → List V := fun vs zs => vs ++ zs.reverse
def gv_Ratio_compared_0_other : List V → List V → List V := fun vs zs => vs ++ zs
def gv_Ratio_over_0_other : List V → List V → List V := fun vs zs => vs ++ zs
abbrev nm__law_pair : List Str := ["_law_bag_here", "_law_upper"]
def rd__law_pair (K : PySem.W.Frag) (a : Cl) (E : XK) : TS := (tSeq (tAsg (tCall (sp__law_one K a) [] E (tCons (tVar 0) (tCons (tLst (tCons (tC (.int 0)) (tCons (tC (.int 1)) (tCons (tCall (sp__law_draw K a) [] E (tCons (tVar 0) (tCons (tC (.int 90)) tNil))) (tCons (tCall (sp__law_draw K a) [] E (tCons (tVar 0) (tCons (tOp (rI CPow fun i j => .int (i ^ j.toNat)) (tC (.int 10)) (tC (.int 9))) tNil))) tNil))))) tNil))) (gName 1))
  (tRet (tTup (tCons (tOp (rI IntMulOk fun i j => .int (i * j)) (tVar 1) (tCall (sp__law_one K a) [] E (tCons (tVar 0) (tCons (tLst (tCons (tC (.int 1)) (tCons (tC (.int 1)) (tCons (tOp (rI0 fun i j => .int (i - j)) (tC (.int 0)) (tC (.int 1))) tNil)))) tNil)))) (tCons (tCall (sp__law_one K a) [] E (tCons (tVar 0) (tCons (tLst (tCons (tC (.int 1)) (tCons (tC (.int 1)) (tCons (tC (.int 2)) (tCons (tC (.int 3)) (tCons (tC (.int 6)) (tCons (tC (.int 12)) (tCons (tOp (rI0 fun i j => .int (i + j)) (tC (.int 1)) (tCall (sp__law_draw K a) [] E (tCons (tVar 0) (tCons (tC (.int 60)) tNil)))) tNil)))))))) tNil))) tNil)))))
abbrev nm__law_parts : List Str := ["_law_made"]
def rd__law_parts (K : PySem.W.Frag) (a : Cl) (E : XK) : TS := (tRet (tTup (tCons (tFldC a.C_Ratio (tVar 0) "top") (tCons (tFldC a.C_Ratio (tVar 0) "bottom") tNil))))
abbrev nm__law_pair_right : List Str := ["_law_one_here", "_law_two", "_law_mine", "_law_mate", "_law_cross", "_law_found", "_law_each", "_law_both", "_law_due", "_law_order"]
def rd__law_pair_right (K : PySem.W.Frag) (a : Cl) (E : XK) : TS := (tSeq (tPar 2 3 (tCons (tMake a.C_Ratio (sp_Ratio___init__ K a) [] E (tCons (tOp (rIxT K) (tVar 0) (tC (.int 0))) (tCons (tOp (rIxT K) (tVar 0) (tC (.int 1))) tNil))) (tCons (tMakeK a.C_Ratio 0 2 (sp_Ratio___init__ K a) gv_Ratio___init___0_bottom_top E tNil (tCons (tOp (rIxT K) (tVar 1) (tC (.int 1))) (tCons (tOp (rIxT K) (tVar 1) (tC (.int 0))) tNil))) tNil)))
  (tSeq (tIfS (tOr (tTest (tOp (rNeD K) (tCall (sp__law_parts K a) [] E (tCons (tVar 2) tNil)) (tCall (sp__law_lowest K a) [] E (tCons (tOp (rIxT K) (tVar 0) (tC (.int 0))) (tCons (tOp (rIxT K) (tVar 0) (tC (.int 1))) tNil))))) (tTest (tOp (rNeD K) (tCall (sp__law_parts K a) [] E (tCons (tVar 3) tNil)) (tCall (sp__law_lowest K a) [] E (tCons (tOp (rIxT K) (tVar 1) (tC (.int 0))) (tCons (tOp (rIxT K) (tVar 1) (tC (.int 1))) tNil)))))) (tRet (tC (.bl false))) tNext)
  (tSeq (tAsg (tTup (tCons (tOp (rI IntMulOk fun i j => .int (i * j)) (tOp (rIxT K) (tVar 0) (tC (.int 0))) (tOp (rIxT K) (tVar 1) (tC (.int 1)))) (tCons (tOp (rI IntMulOk fun i j => .int (i * j)) (tOp (rIxT K) (tVar 1) (tC (.int 0))) (tOp (rIxT K) (tVar 0) (tC (.int 1)))) tNil))) (gName 4))
  (tSeq (tAsg (tLc (iList K (tLst (tCons (tOp (rOwn2 a.C_Ratio (sp_Ratio___add__ K a) E) (tVar 2) (tVar 3)) (tCons (tOp (rOwn2 a.C_Ratio (sp_Ratio___sub__ K a) E) (tVar 2) (tVar 3)) (tCons (tOp (rOwn2 a.C_Ratio (sp_Ratio___mul__ K a) E) (tVar 2) (tVar 3)) (tCons (tUn (rOwnU a.C_Ratio (sp_Ratio___neg__ K a) E) (tVar 2)) tNil)))))) (gName 6) tYes (tCall (sp__law_parts K a) [] E0 (tCons (tVar 6) tNil)) [6]) (gName 5))
  (tSeq (tAsg (tOp (rI IntMulOk fun i j => .int (i * j)) (tOp (rIxT K) (tVar 0) (tC (.int 1))) (tOp (rIxT K) (tVar 1) (tC (.int 1)))) (gName 7))
  (tSeq (tAsg (tLst (tCons (tCall (sp__law_lowest K a) [] E (tCons (tOp (rI0 fun i j => .int (i + j)) (tOp (rIxT K) (tVar 4) (tC (.int 0))) (tOp (rIxT K) (tVar 4) (tC (.int 1)))) (tCons (tVar 7) tNil))) (tCons (tCall (sp__law_lowest K a) [] E (tCons (tOp (rI0 fun i j => .int (i - j)) (tOp (rIxT K) (tVar 4) (tC (.int 0))) (tOp (rIxT K) (tVar 4) (tC (.int 1)))) (tCons (tVar 7) tNil))) tNil))) (gName 8))
  (tSeq (tDrop (tBM K "list" rAppend (tVar 8) (tCons (tCall (sp__law_lowest K a) [] E (tCons (tOp (rI IntMulOk fun i j => .int (i * j)) (tOp (rIxT K) (tVar 0) (tC (.int 0))) (tOp (rIxT K) (tVar 1) (tC (.int 0)))) (tCons (tVar 7) tNil))) tNil)))
  (tSeq (tDrop (tBM K "list" rAppend (tVar 8) (tCons (tCall (sp__law_lowest K a) [] E (tCons (tOp (rI0 fun i j => .int (i - j)) (tC (.int 0)) (tOp (rIxT K) (tVar 0) (tC (.int 0)))) (tCons (tOp (rIxT K) (tVar 0) (tC (.int 1))) tNil))) tNil)))
  (tSeq (tAsg (tOp (rI0 fun i j => .int (i - j)) (tCB rInt1 (tCons (tOp (rI0 fun i j => .bl (decide (j < i))) (tOp (rIxT K) (tVar 4) (tC (.int 0))) (tOp (rIxT K) (tVar 4) (tC (.int 1)))) tNil)) (tCB rInt1 (tCons (tOp (rI0 fun i j => .bl (decide (i < j))) (tOp (rIxT K) (tVar 4) (tC (.int 0))) (tOp (rIxT K) (tVar 4) (tC (.int 1)))) tNil))) (gName 9))
  (tSeq (tIfS (tOr (tTest (tOp (rNeD K) (tVar 5) (tVar 8))) (tTest (tOp rNe (tMeth a.C_Ratio "compared" (sp_Ratio_compared K a) [] E (tVar 2) (tCons (tVar 3) tNil)) (tVar 9)))) (tRet (tC (.bl false))) tNext)
  (tSeq (tIfS (tOr (tTest (tOp rNe (tOp (rEqOwn K a.C_Ratio (sp_Ratio___eq__ K a) E) (tVar 2) (tVar 3)) (tOp rEq (tOp (rIxT K) (tVar 4) (tC (.int 0))) (tOp (rIxT K) (tVar 4) (tC (.int 1)))))) (tTest (tOp rEq (tOp (rNeOwn K a.C_Ratio (sp_Ratio___eq__ K a) E) (tVar 2) (tVar 3)) (tOp (rEqOwn K a.C_Ratio (sp_Ratio___eq__ K a) E) (tVar 2) (tVar 3))))) (tRet (tC (.bl false))) tNext)
  (tSeq (tIfS (tTest (tOp rEq (tOp (rIxT K) (tVar 1) (tC (.int 0))) (tC (.int 0)))) (tRet (tC (.bl true))) tNext)
  (tRet (tOp (rEqD K) (tCall (sp__law_parts K a) [] E (tCons (tMeth a.C_Ratio "over" (sp_Ratio_over K a) [] E (tVar 2) (tCons (tVar 3) tNil)) tNil)) (tCall (sp__law_lowest K a) [] E (tCons (tOp (rIxT K) (tVar 4) (tC (.int 0))) (tCons (tOp (rI IntMulOk fun i j => .int (i * j)) (tOp (rIxT K) (tVar 0) (tC (.int 1))) (tOp (rIxT K) (tVar 1) (tC (.int 0)))) tNil)))))))))))))))))
abbrev nm__law_whole_right : List Str := ["_law_one_here", "_law_many", "_law_mine", "_law_here", "_law_some", "_law_due", "_law_k"]
def rd__law_whole_right (K : PySem.W.Frag) (a : Cl) (E : XK) : TS := (tSeq (tPar 2 3 (tCons (tMake a.C_Ratio (sp_Ratio___init__ K a) [] E (tCons (tOp (rIxT K) (tVar 0) (tC (.int 0))) (tCons (tOp (rIxT K) (tVar 0) (tC (.int 1))) tNil))) (tCons (tOp (rI IntMulOk fun i j => .int (i * j)) (tVar 1) (tOp (rIxT K) (tVar 0) (tC (.int 1)))) tNil)))
  (tSeq (tAsg (tLst (tCons (tOp (rOwnI a.C_Ratio (sp_Ratio___add__ K a) E) (tVar 2) (tVar 1)) (tCons (tOp (rRefl a.C_Ratio (sp_Ratio___radd__ K a) E) (tVar 1) (tVar 2)) (tCons (tOp (rOwnI a.C_Ratio (sp_Ratio___sub__ K a) E) (tVar 2) (tVar 1)) (tCons (tOp (rRefl a.C_Ratio (sp_Ratio___rsub__ K a) E) (tVar 1) (tVar 2)) (tCons (tOp (rOwnI a.C_Ratio (sp_Ratio___mul__ K a) E) (tVar 2) (tVar 1)) (tCons (tOp (rRefl a.C_Ratio (sp_Ratio___rmul__ K a) E) (tVar 1) (tVar 2)) tNil))))))) (gName 4))
  (tSeq (tAsg (tLst (tCons (tOp (rI0 fun i j => .int (i + j)) (tOp (rIxT K) (tVar 0) (tC (.int 0))) (tVar 3)) (tCons (tOp (rI0 fun i j => .int (i + j)) (tOp (rIxT K) (tVar 0) (tC (.int 0))) (tVar 3)) (tCons (tOp (rI0 fun i j => .int (i - j)) (tOp (rIxT K) (tVar 0) (tC (.int 0))) (tVar 3)) (tCons (tOp (rI0 fun i j => .int (i - j)) (tVar 3) (tOp (rIxT K) (tVar 0) (tC (.int 0)))) (tCons (tOp (rI IntMulOk fun i j => .int (i * j)) (tOp (rIxT K) (tVar 0) (tC (.int 0))) (tVar 1)) (tCons (tOp (rI IntMulOk fun i j => .int (i * j)) (tOp (rIxT K) (tVar 0) (tC (.int 0))) (tVar 1)) tNil))))))) (gName 5))
  (tSeq (tFor (iRng1 (tCons (tC (.int 6)) tNil)) (gName 6) (tIfS (tTest (tOp (rNeD K) (tCall (sp__law_parts K a) [] E (tCons (tOp (rIxL K) (tVar 4) (tVar 6)) tNil)) (tCall (sp__law_lowest K a) [] E (tCons (tOp (rIxL K) (tVar 5) (tVar 6)) (tCons (tOp (rIxT K) (tVar 0) (tC (.int 1))) tNil))))) (tRet (tC (.bl false))) tNext))
  (tSeq (tIfS (tTest (tOp rNe (tMethN a.C_Ratio "compared" 0 1 (sp_Ratio_compared K a) gv_Ratio_compared_0_other E (tVar 2) tNil (tCons (tVar 1) tNil)) (tOp (rI0 fun i j => .int (i - j)) (tCB rInt1 (tCons (tOp (rI0 fun i j => .bl (decide (j < i))) (tOp (rIxT K) (tVar 0) (tC (.int 0))) (tVar 3)) tNil)) (tCB rInt1 (tCons (tOp (rI0 fun i j => .bl (decide (i < j))) (tOp (rIxT K) (tVar 0) (tC (.int 0))) (tVar 3)) tNil))))) (tRet (tC (.bl false))) tNext)
  (tSeq (tIfS (tOr (tTest (tOp (rNeD K) (tLst (tCons (tOp (rEqOwn K a.C_Ratio (sp_Ratio___eq__ K a) E) (tVar 2) (tVar 1)) (tCons (tOp (rRefl a.C_Ratio (sp_Ratio___eq__ K a) E) (tVar 1) (tVar 2)) tNil))) (tOp rRep (tLst (tCons (tOp rEq (tOp (rIxT K) (tVar 0) (tC (.int 0))) (tVar 3)) tNil)) (tC (.int 2))))) (tTest (tOp (rEqOwn K a.C_Ratio (sp_Ratio___eq__ K a) E) (tVar 2) (tTup (tCons (tFldC a.C_Ratio (tVar 2) "top") (tCons (tFldC a.C_Ratio (tVar 2) "bottom") tNil)))))) (tRet (tC (.bl false))) tNext)
  (tSeq (tIfS (tTest (tOp rEq (tVar 1) (tC (.int 0)))) (tRet (tC (.bl true))) tNext)
  (tRet (tOp (rEqD K) (tCall (sp__law_parts K a) [] E (tCons (tMethN a.C_Ratio "over" 0 1 (sp_Ratio_over K a) gv_Ratio_over_0_other E (tVar 2) tNil (tCons (tVar 1) tNil)) tNil)) (tCall (sp__law_lowest K a) [] E (tCons (tOp (rIxT K) (tVar 0) (tC (.int 0))) (tCons (tOp (rI IntMulOk fun i j => .int (i * j)) (tOp (rIxT K) (tVar 0) (tC (.int 1))) (tVar 1)) tNil))))))))))))
abbrev nm__law_right : List Str := ["_law_bag_here", "_law_turn", "_law_one_here", "_law_two"]
def rd__law_right (K : PySem.W.Frag) (a : Cl) (E : XK) : TS := (tSeq (tFor (iRng1 (tCons (tC (.int 10)) tNil)) (gName 1) (tSeq (tPar 2 3 (tCons (tCall (sp__law_pair K a) [] E (tCons (tVar 0) tNil)) (tCons (tCall (sp__law_pair K a) [] E (tCons (tVar 0) tNil)) tNil)))
  (tIfS (tOr (tNot (tB (tCall (sp__law_pair_right K a) [] E (tCons (tVar 2) (tCons (tVar 3) tNil))))) (tNot (tB (tCall (sp__law_whole_right K a) [] E (tCons (tVar 2) (tCons (tOp (rIxT K) (tVar 3) (tC (.int 0))) tNil)))))) (tRet (tC (.bl false))) tNext)))
  (tRet (tC (.bl true))))
abbrev nm_law : List Str := ["_law_cells", "_law_half", "_law_k"]
def rd_law (K : PySem.W.Frag) (a : Cl) (E : XK) : TS := (tSeq (tAsg (tMake a.C_Ratio (sp_Ratio___init__ K a) [] E (tCons (tC (.int 6)) (tCons (tC (.int 12)) tNil))) (gName 1))
  (tSeq (tIfS (tTest (tOp (rNeD K) (tLst (tCons (tFldC a.C_Ratio (tVar 1) "top") (tCons (tFldC a.C_Ratio (tVar 1) "bottom") (tCons (tFldC a.C_Ratio (tMake a.C_Ratio (sp_Ratio___init__ K a) [] E (tCons (tC (.int 0)) (tCons (tC (.int 7)) tNil))) "bottom") (tCons (tOp (rEqOwn K a.C_Ratio (sp_Ratio___eq__ K a) E) (tMake a.C_Ratio (sp_Ratio___init__ K a) [.int 1] E (tCons (tC (.int 1)) tNil)) (tC (.bl true))) (tCons (tOp (rEqOwn K a.C_Ratio (sp_Ratio___eq__ K a) E) (tMake a.C_Ratio (sp_Ratio___init__ K a) [] E (tCons (tC (.int 4)) (tCons (tC (.int 2)) tNil))) (tC (.int 2))) tNil)))))) (tLst (tCons (tC (.int 1)) (tCons (tC (.int 2)) (tCons (tC (.int 1)) (tCons (tC (.bl false)) (tCons (tC (.bl true)) tNil)))))))) (tRet (tC (.bl false))) tNext)
  (tRet (tCB (rAll K) (tCons (tLc (iRng1 (tCons (tCB rMax2 (tCons (tC (.int 2)) (tCons (tCB rMin2 (tCons (tCB (rLen K) (tCons (tVar 0) tNil)) (tCons (tC (.int 6)) tNil))) tNil))) tNil)) (gName 2) tYes (tCall (sp__law_right K a) [] E0 (tCons (tCall (sp__law_bag K a) [] E0 (tCons (tVar 0) (tCons (tVar 2) tNil))) tNil)) [2]) tNil)))))
local macro_rules | `(tactic| walk_at "up") => `(tactic| first | assumption | exact upd_same | (apply SL.RatAt.up; assumption; walk_at "up") | (apply SL.Same.at; assumption; walk_at "up"))
local macro_rules | `(tactic| walk_at "s0") => `(tactic| first
  | with_reducible refine SL.go_var (by with_unfolding_all rfl) ?_
  | with_reducible refine SL.go_seq ?_
  | with_reducible refine SL.go_next ?_
  | with_reducible refine SL.go_asg ?_
  | with_reducible refine SL.go_gname ?_
  | with_reducible refine SL.go_ret ?_
  | with_reducible refine SL.go_drop ?_
  | with_reducible refine SL.go_ifs ?_
  | with_reducible refine SL.go_c ?_
  | with_reducible refine SL.go_op ?_
  | with_reducible refine SL.go_un ?_
  | with_reducible refine SL.go_I0 ?_
  | with_reducible refine SL.go_U ?_
  | with_reducible refine SL.go_test ?_
  | with_reducible refine SL.go_tb ?_
  | with_reducible refine SL.go_bl ?_
  | with_reducible refine SL.go_eqI ?_
  | with_reducible refine SL.go_neI ?_
  | with_reducible refine SL.go_eqB ?_
  | with_reducible refine SL.go_neB ?_
  | with_reducible refine SL.go_eqS ?_
  | with_reducible refine SL.go_neS ?_
  | with_reducible refine SL.go_and ?_
  | with_reducible refine SL.go_or ?_
  | with_reducible refine SL.go_not ?_
  | with_reducible refine SL.go_andV ?_
  | with_reducible refine SL.go_orV ?_
  | with_reducible refine SL.go_notV ?_
  | with_reducible refine SL.go_if ?_
  | with_reducible refine SL.go_T ?_
  | with_reducible refine SL.go_F ?_
  | with_reducible refine SL.go_nT ?_
  | with_reducible refine SL.go_nF ?_
  | with_reducible refine SL.go_nil ?_
  | with_reducible refine SL.go_cons ?_
  | with_reducible refine SL.go_call ?_
  | with_reducible refine SL.go_cb ?_
  | with_reducible refine SL.go_par ?_
  | with_reducible refine SL.go_pair ?_
  | with_reducible refine SL.go_tup ?_
  | with_reducible refine SL.go_lst ?_
  | with_reducible refine SL.go_fldC ?_
  | with_reducible refine SL.go_sfld ?_
  | with_reducible refine SL.go_sub ?_
  | with_reducible refine SL.go_sl ?_
  | with_reducible refine SL.go_noPart ?_
  | with_reducible refine SL.go_part ?_
  | with_reducible refine SL.go_partE ?_
  | with_reducible refine SL.go_abs ?_
  | with_reducible refine SL.go_max2 ?_
  | with_reducible refine SL.go_min2 ?_
  | with_reducible refine SL.go_int ?_
  | with_reducible refine SL.go_intB ?_
  | with_reducible refine SL.go_bm ?_
  | with_reducible refine SL.go_meth ?_
  | with_reducible refine SL.go_methN ?_
  | with_reducible refine SL.go_make ?_
  | with_reducible refine SL.go_makeK ?_
  | with_reducible refine SL.go_for ?_
  | with_reducible refine SL.go_iList ?_
  | with_reducible refine SL.go_iTup ?_
  | with_reducible refine SL.go_iRng1 ?_
  | with_reducible refine SL.go_iRng2 ?_
  | with_reducible refine SL.go_lc ?_
  | with_reducible refine SL.go_yes ?_)
local macro_rules | `(tactic| walk_at "go") => `(tactic| repeat walk_at "s0")
local macro_rules | `(tactic| walk_at "nw") => `(tactic| (refine ⟨SL.szL (by simp), fun p n => ?_⟩; generalize q : upd _ p _ = H'; have e := SL.Same.new' n q; have h := SL.at_new q; clear q))
local macro_rules | `(tactic| walk_at "nw0") => `(tactic| (intro p n; generalize q : upd _ p _ = H'; have e := SL.Same.new' n q; have h := SL.at_new q; clear q))
local macro_rules | `(tactic| walk_at "gx") => `(tactic| repeat (first | walk_at "s0" | with_reducible refine SL.go_ixT (SqT.of (by walk_at "up")) (by with_unfolding_all rfl) ?_ | with_reducible refine SL.go_top (by walk_at "up") ?_ | with_reducible refine SL.go_bot (by walk_at "up") ?_))
section
variable {K : PySem.W.Frag} {a : Cl} {vs : List V} {H : Hp} {Q : VK} {E : XK}
theorem PairOk.bd {n d : Int} (h : PairOk n d) : Bd 64 n ∧ Bd 64 d ∧ 0 < d := ⟨Bd.small (by decide) (by have := h.1; omega) (by have := h.2.1; omega), Bd.small (by decide) (by have := h.2.2.1; omega) (by have := h.2.2.2; omega), by have := h.2.2.1; omega⟩
theorem read__law_parts (h : sp__law_parts K a vs H Q E) : rd__law_parts K a E (ends Q) (start nm__law_parts vs) H := by
  obtain ⟨p, n, d, rfl, hp, k⟩ := h
  unfold rd__law_parts
  walk_at "gx"
  exact go_newT (by show 2 ≤ 1000; decide) k
/-- one of some ints in a new list -/
theorem one_ints {b p : Addr} {xs : List V} {R : VK} (hb : BagAt H b) (n : p ≠ b) (hp : H p = some (.lst xs)) (hne : xs ≠ []) (hl : xs.length ≤ 1000) (k : ∀ x H', x ∈ xs → Grow b H H' → R x H') : sp__law_one K a ([.ref b, .ref p] ++ []) H R E :=
  ⟨b, .ref p, xs, rfl, hb, .lst (SqL.of hp), fun H' g => .lst (SqL.of (g.lst n hp)), hne, hl, k⟩
theorem read__law_pair (h : sp__law_pair K a vs H Q E) : rd__law_pair K a E (ends Q) (start nm__law_pair vs) H := by
  obtain ⟨b, rfl, hb, k⟩ := h
  unfold rd__law_pair
  walk_at "go"
  refine ⟨b, 90, rfl, hb, by decide, Bd.small (by decide) (by decide) (by decide), fun r1 H1 h10 h11 g1 => ?_⟩
  walk_at "go"
  refine go_I ⟨by decide, by decide, by decide⟩ ?_
  walk_at "go"
  refine ⟨b, _, rfl, g1.b1, by decide, Bd.small (by decide) (by decide) (by decide), fun r2 H2 h20 h21 g2 => ?_⟩
  have h22 : r2 < 1000000000 := h21
  walk_at "go"
  walk_at "nw"
  rename_i p1 n3 H3 e3 hp1
  have hb3 := g2.b1.up e3
  walk_at "go"
  refine one_ints hb3 (BagAt.ne g2.b1 n3) hp1 (by simp) (by show 4 ≤ 1000; decide) fun x H4 hx g4 => ?_
  obtain ⟨u, rfl, hu0, hu1⟩ : ∃ u : Int, x = .int u ∧ 0 ≤ u ∧ u ≤ 1000000000 := by
    simp only [List.mem_cons, List.not_mem_nil, or_false] at hx
    rcases hx with rfl | rfl | rfl | rfl
    · exact ⟨0, rfl, by omega, by omega⟩
    · exact ⟨1, rfl, by omega, by omega⟩
    · exact ⟨r1, rfl, by omega, by omega⟩
    · exact ⟨r2, rfl, by omega, by omega⟩
  walk_at "go"
  walk_at "nw"
  rename_i p2 n5 H5 e5 hp2
  walk_at "go"
  refine one_ints (g4.b1.up e5) (BagAt.ne g4.b1 n5) hp2 (by simp) (by show 3 ≤ 1000; decide) fun x H6 hx g6 => ?_
  obtain ⟨s, rfl, hs⟩ : ∃ s : Int, x = .int s ∧ (s = 1 ∨ s = -1) := by
    simp only [List.mem_cons, List.not_mem_nil, or_false] at hx
    rcases hx with rfl | rfl | rfl
    · exact ⟨1, rfl, .inl rfl⟩
    · exact ⟨1, rfl, .inl rfl⟩
    · exact ⟨-1, rfl, .inr rfl⟩
  refine go_I (mulR (by rcases hs with rfl | rfl <;> decide)) ?_
  walk_at "go"
  refine ⟨b, 60, rfl, g6.b1, by decide, Bd.small (by decide) (by decide) (by decide), fun r3 H7 h30 h31 g7 => ?_⟩
  walk_at "go"
  walk_at "nw"
  rename_i p3 n8 H8 e8 hp3
  walk_at "go"
  refine one_ints (g7.b1.up e8) (BagAt.ne g7.b1 n8) hp3 (by simp) (by show 7 ≤ 1000; decide) fun x H9 hx g9 => ?_
  obtain ⟨d, rfl, hd0, hd1⟩ : ∃ d : Int, x = .int d ∧ 1 ≤ d ∧ d ≤ 60 := by
    simp only [List.mem_cons, List.not_mem_nil, or_false] at hx
    rcases hx with rfl | rfl | rfl | rfl | rfl | rfl | rfl
    · exact ⟨1, rfl, by omega, by omega⟩
    · exact ⟨1, rfl, by omega, by omega⟩
    · exact ⟨2, rfl, by omega, by omega⟩
    · exact ⟨3, rfl, by omega, by omega⟩
    · exact ⟨6, rfl, by omega, by omega⟩
    · exact ⟨12, rfl, by omega, by omega⟩
    · exact ⟨1 + r3, rfl, by omega, by omega⟩
  walk_at "go"
  walk_at "nw"
  rename_i p4 n10 H10 e10 hp4
  have G : Grow b H H10 := ((((((g1.trans g2).trans (.same g2.b1 e3)).trans g4).trans (.same g4.b1 e5)).trans g6).trans g7).trans ((Grow.same g7.b1 e8).trans (g9.trans (.same g9.b1 e10)))
  refine k p4 _ _ H10 G hp4 ⟨?_, ?_, hd0, hd1⟩ <;> (rcases hs with rfl | rfl <;> omega)
theorem low_bd {n d : Int} (h : PairOk n d) : Bd 64 (nm n d) ∧ Bd 64 (dn n d) ∧ 0 < dn n d := ⟨h.bd.1.of_le (nm_natAbs_le n d), h.bd.2.1.of_le (dn_natAbs_le n d), dn_pos h.bd.2.2⟩
theorem two_of {n1 d1 n2 d2 : Int} (h1 : PairOk n1 d1) (h2 : PairOk n2 d2) : Two (nm n1 d1) (dn n1 d1) (nm n2 d2) (dn n2 d2) :=
  ⟨(low_bd h1).2.2, (low_bd h2).2.2, (low_bd h1).1.mono (by decide), (low_bd h1).2.1.mono (by decide), (low_bd h2).1.mono (by decide), (low_bd h2).2.1.mono (by decide)⟩
theorem lowN_pos {n d : Int} (h : 0 < d) : lowN n d = nm n d ∧ lowD n d = dn n d := by unfold lowN lowD; rw [if_pos h, if_pos h]; exact ⟨rfl, rfl⟩
theorem low_prop {n1 d1 : Int} (hd : 0 < d1) {t : Int} (ht : t = 1 ∨ t = -1) {n d : Int} (e1 : n = t * n1) (e2 : d1 = t * d) : lowN n1 d = nm n d1 ∧ True := ⟨by
  unfold lowN
  rcases ht with rfl | rfl
  · rw [if_pos (by omega)]; congr 1 <;> omega
  · rw [if_neg (by omega)]; congr 1 <;> omega, trivial⟩
theorem lowSgn {n1 n2 d1 d2 : Int} (h1 : 0 < d1) (h : n2 ≠ 0) : lowN (n1 * d2) (d1 * n2) = nm (sgn n2 * n1 * d2) (sgn n2 * d1 * n2) ∧ lowD (n1 * d2) (d1 * n2) = dn (sgn n2 * n1 * d2) (sgn n2 * d1 * n2) := by
  unfold lowN lowD sgn
  by_cases q : 0 < n2
  · have : 0 < d1 * n2 := Int.mul_pos h1 q
    rw [if_pos this, if_pos this, if_pos q, Int.one_mul, Int.one_mul]
    exact ⟨rfl, rfl⟩
  · have : d1 * n2 < 0 := Int.mul_neg_of_pos_of_neg h1 (by omega)
    rw [if_neg q, if_neg (show ¬ 0 < d1 * n2 by omega), if_neg (show ¬ 0 < d1 * n2 by omega)]
    have e1 : -1 * n1 * d2 = -(n1 * d2) := by rw [Int.neg_mul, Int.one_mul, Int.neg_mul]
    have e2 : -1 * d1 * n2 = -(d1 * n2) := by rw [Int.neg_mul, Int.one_mul, Int.neg_mul]
    rw [e1, e2]
    exact ⟨rfl, rfl⟩
theorem parts_of {p : Addr} {n d : Int} {R : VK} (h : RatAt a H p n d) (k : ∀ q H', H q = none → L2.Same H H' → H' q = some (.tup [.int n, .int d]) → R (.ref q) H') : sp__law_parts K a ([.ref p] ++ []) H R E := ⟨p, n, d, rfl, h, k⟩
theorem lowest_of {n d : Int} {R : VK} (hd : 0 < d) (hb : Bd 8000 d) (k : ∀ q H', H q = none → L2.Same H H' → H' q = some (.tup [.int (nm n d), .int (dn n d)]) → R (.ref q) H') : sp__law_lowest K a ([.int n, .int d] ++ []) H R E :=
  ⟨n, d, rfl, by omega, hb, fun p H' n1 e h => k p H' n1 e (by rw [(lowN_pos hd).1, (lowN_pos hd).2] at h; exact h)⟩
theorem PairOk.b8 {n d : Int} (h : PairOk n d) : Bd 8000 d := h.bd.2.1.mono (by decide)
/-- tuples of pairs at some places -/
inductive Tups (H : Hp) : List Addr → List (Int × Int) → Prop where
  | nil : Tups H [] []
  | cons {t : Addr} {n d : Int} {ts : List Addr} {fs : List (Int × Int)} (h : H t = some (.tup [.int n, .int d])) (r : Tups H ts fs) : Tups H (t :: ts) ((n, d) :: fs)
theorem Tups.up {H H' : Hp} {ts : List Addr} {fs : List (Int × Int)} (e : ∀ p xs, H p = some (.tup xs) → H' p = some (.tup xs)) (h : Tups H ts fs) : Tups H' ts fs := by
  induction h with
  | nil => exact .nil
  | cons h _ ih => exact .cons (e _ _ h) ih
theorem Tups.snoc {H : Hp} {ts : List Addr} {fs : List (Int × Int)} {t : Addr} {n d : Int} (h : Tups H ts fs) (ht : H t = some (.tup [.int n, .int d])) : Tups H (ts ++ [t]) (fs ++ [(n, d)]) := by
  induction h with
  | nil => exact .cons ht .nil
  | cons h _ ih => exact .cons h ih
theorem Tups.dp {H : Hp} {ts : List Addr} {fs : List (Int × Int)} (h : Tups H ts fs) : DpAll K H (ts.map V.ref) (fs.map fun f => .tuple [.int f.1, .int f.2]) := by
  induction h with
  | nil => exact .nil
  | cons h _ ih => exact .cons (dp_pair h) ih
theorem Tups.len {H : Hp} {ts : List Addr} {fs : List (Int × Int)} (h : Tups H ts fs) : ts.length = fs.length := by
  induction h with
  | nil => rfl
  | cons _ _ ih => rw [List.length_cons, List.length_cons, ih]
theorem read__law_pair_right (F : KF K a) (hR : a.C_Ratio ∈ a.cls) (h : sp__law_pair_right K a vs H Q E) : rd__law_pair_right K a E (ends Q) (start nm__law_pair_right vs) H := by
  obtain ⟨p, q, n1, d1, n2, d2, rfl, hp, hq, o1, o2, k⟩ := h
  have two := two_of o1 o2
  have pos1 := o1.bd.2.2
  have pos2 := o2.bd.2.2
  unfold rd__law_pair_right
  walk_at "gx"
  refine mk_ratio pos1 o1.b8 fun r1 H1 e1 hr1 => ?_
  walk_at "gx"
  refine go_two rfl rfl ?_
  refine mk_ratio pos2 o2.b8 fun r2 H2 e2 hr2 => ?_
  walk_at "gx"
  refine parts_of (hr1.up e2) fun t1 H3 _ e3 ht1 => ?_
  walk_at "gx"
  refine lowest_of pos1 o1.b8 fun t2 H4 _ e4 ht2 => ?_
  refine ne_same (dp_pair (e4 _ _ ht1)) (dp_pair ht2) (sh_pair _ _) ?_
  walk_at "gx"
  refine parts_of (by walk_at "up") fun t3 H5 _ e5 ht3 => ?_
  walk_at "gx"
  refine lowest_of pos2 o2.b8 fun t4 H6 _ e6 ht4 => ?_
  refine ne_same (dp_pair (e6 _ _ ht3)) (dp_pair ht4) (sh_pair _ _) ?_
  walk_at "gx"
  have mm : ∀ {x y : Int}, Bd 64 x → Bd 64 y → IntMulOk x y := fun h h' => h.cmul h'
  refine go_I (mm o1.bd.1 o2.bd.2.1) ?_
  walk_at "gx"
  refine go_I (mm o2.bd.1 o1.bd.2.1) ?_
  walk_at "gx"
  walk_at "nw"
  rename_i c _ H7 e7 hc
  walk_at "gx"
  refine go_ratR (a := a) (n1 := nm n1 d1) (d1 := dn n1 d1) (n2 := nm n2 d2) (d2 := dn n2 d2) (by walk_at "up") (by walk_at "up") ?_
  refine ⟨r1, .ref r2, _, _, _, _, rfl, by walk_at "up", .rat (by walk_at "up"), two, fun r3 H8 e8 hr3 => ?_⟩
  rw [(low_add pos1 pos2).1, (low_add pos1 pos2).2] at hr3
  walk_at "gx"
  refine go_ratR (a := a) (n1 := nm n1 d1) (d1 := dn n1 d1) (n2 := nm n2 d2) (d2 := dn n2 d2) (by walk_at "up") (by walk_at "up") ?_
  refine ⟨r1, .ref r2, _, _, _, _, rfl, by walk_at "up", .rat (by walk_at "up"), two, fun r4 H9 e9 hr4 => ?_⟩
  rw [(low_sub pos1 pos2).1, (low_sub pos1 pos2).2] at hr4
  walk_at "gx"
  refine go_ratR (a := a) (n1 := nm n1 d1) (d1 := dn n1 d1) (n2 := nm n2 d2) (d2 := dn n2 d2) (by walk_at "up") (by walk_at "up") ?_
  refine ⟨r1, .ref r2, _, _, _, _, rfl, by walk_at "up", .rat (by walk_at "up"), two, fun r5 H10 e10 hr5 => ?_⟩
  rw [(low_mul pos1 pos2).1, (low_mul pos1 pos2).2] at hr5
  walk_at "gx"
  refine go_ratU (a := a) (n1 := nm n1 d1) (d1 := dn n1 d1) (by walk_at "up") ?_
  refine ⟨r1, _, _, rfl, by walk_at "up", two.p1, two.b2.mono (by decide), fun r6 H11 e11 hr6 => ?_⟩
  rw [(low_neg pos1).1, (low_neg pos1).2] at hr6
  walk_at "gx"
  walk_at "nw"
  rename_i l _ H12 e12 hl
  refine ⟨l, rfl, ⟨_, SqL.of hl⟩, fun D hD => ?_⟩
  let fs : List (Int × Int) := [(nm (n1 * d2 + n2 * d1) (d1 * d2), dn (n1 * d2 + n2 * d1) (d1 * d2)), (nm (n1 * d2 - n2 * d1) (d1 * d2), dn (n1 * d2 - n2 * d1) (d1 * d2)), (nm (n1 * n2) (d1 * d2), dn (n1 * n2) (d1 * d2)), (nm (-n1) d1, dn (-n1) d1)]
  have rats : ∀ (i : Nat) (x : V), [V.ref r3, V.ref r4, V.ref r5, V.ref r6][i]? = some x → ∃ r f, x = .ref r ∧ fs[i]? = some f ∧ RatAt a H12 r f.1 f.2 := by
    intro i x hx
    match i, hx with
    | 0, hx => cases hx; exact ⟨r3, _, rfl, rfl, by walk_at "up"⟩
    | 1, hx => cases hx; exact ⟨r4, _, rfl, rfl, by walk_at "up"⟩
    | 2, hx => cases hx; exact ⟨r5, _, rfl, rfl, by walk_at "up"⟩
    | 3, hx => cases hx; exact ⟨r6, _, rfl, rfl, by walk_at "up"⟩
  refine lc_list (K := K) (a := l) (xs := [V.ref r3, V.ref r4, V.ref r5, V.ref r6]) (fun i H' => ∃ ts : List Addr, L2.Same H12 H' ∧ H' D = some (.lst (ts.map V.ref)) ∧ Tups H' ts (fs.take i)) ?_ ?_ ?_ ?_
  · exact ⟨[], Same.new hD, upd_same, .nil⟩
  · rintro i H' _ ⟨ts, e, _, _⟩
    exact SqL.of (e _ _ hl)
  · rintro i x H' hx ⟨ts, e, hD', ht⟩
    obtain ⟨r, f, rfl, hf, hr⟩ := rats i x hx
    walk_at "go"
    refine ⟨rfl, ?_⟩
    walk_at "go"
    refine parts_of (hr.up e) fun t H'' nt e' hT => ?_
    have hi : i < 4 := (List.getElem?_eq_some_iff.mp hx).1
    refine ⟨ts.map V.ref, e' _ _ hD', ?_, ts ++ [t], ?_, ?_, ?_⟩
    · rw [List.length_map, ht.len, List.length_take]; exact small1000 (by have : fs.length = 4 := rfl; omega)
    · intro p' o h'
      have : p' ≠ D := ne_of_none h' hD
      rw [upd_ne this]
      exact e' _ _ (e _ _ h')
    · rw [upd_same, List.map_append]; rfl
    · rw [List.take_succ_eq_append_getElem (by exact hi)]
      have ef : fs[i]'(by exact hi) = f := by
        have := List.getElem?_eq_getElem (l := fs) (i := i) (by exact hi)
        rw [hf] at this
        exact (Option.some.inj this).symm
      rw [ef]
      refine Tups.snoc (ht.up fun p' xs h' => ?_) ?_
      · rw [upd_ne (ne_of h' hD' (by intro z; cases z))]; exact e' _ _ h'
      · rw [upd_ne (ne_of hT (e' _ _ hD') (by intro z; cases z))]; exact hT
  rintro H13 ⟨ts, e13, hD13, htups⟩
  have htups : Tups H13 ts fs := htups
  walk_at "gx"
  have dd : 0 < d1 * d2 := Int.mul_pos pos1 pos2
  have ddb : Bd 8000 (d1 * d2) := (o1.bd.2.1.mul o2.bd.2.1).mono (by decide)
  refine go_I (mm o1.bd.2.1 o2.bd.2.1) ?_
  walk_at "gx"
  refine lowest_of dd ddb fun t5 H14 _ e14 ht5 => ?_
  walk_at "gx"
  refine lowest_of dd ddb fun t6 H15 _ e15 ht6 => ?_
  walk_at "gx"
  walk_at "nw"
  rename_i du ndu H16 e16 hdu
  walk_at "gx"
  refine ⟨ty_list (SqL.of hdu), ?_⟩
  walk_at "gx"
  refine go_I (mm o1.bd.1 o2.bd.1) ?_
  walk_at "gx"
  refine lowest_of dd ddb fun t7 H17 _ e17 ht7 => ?_
  walk_at "gx"
  refine go_app (e17 _ _ hdu) (by simp) ?_
  have s13 : L2.Same H13 H17 := ((e14.trans e15).trans e16).trans e17
  have nd13 : H13 du = none := (e14.trans e15).free ndu
  have s18 : L2.Same H13 (upd H17 du (.lst ([.ref t5, .ref t6] ++ [.ref t7]))) := Same.mut s13 nd13
  have keepT : ∀ {t : Addr} {xs : List V} {o : List V}, H17 t = some (.tup xs) → upd H17 du (.lst o) t = some (.tup xs) := fun {t xs o} h => by
    rw [upd_ne (ne_of h (e17 _ _ hdu) (by intro z; cases z))]; exact h
  have k5 := keepT (o := [.ref t5, .ref t6] ++ [.ref t7]) (e17 _ _ (e16 _ _ (e15 _ _ ht5)))
  have k6 := keepT (o := [.ref t5, .ref t6] ++ [.ref t7]) (e17 _ _ (e16 _ _ ht6))
  have k7 := keepT (o := [.ref t5, .ref t6] ++ [.ref t7]) ht7
  have kl : upd H17 du (.lst ([.ref t5, .ref t6] ++ [.ref t7])) du = some (.lst ([.ref t5, .ref t6] ++ [.ref t7])) := upd_same
  generalize upd H17 du (.lst ([.ref t5, .ref t6] ++ [.ref t7])) = H18 at s18 k5 k6 k7 kl ⊢
  walk_at "gx"
  refine ⟨ty_list (SqL.of kl), ?_⟩
  walk_at "gx"
  refine lowest_of pos1 o1.b8 fun t8 H19 _ e19 ht8 => ?_
  walk_at "gx"
  refine go_app (e19 _ _ kl) (by simp) ?_
  have s20 : L2.Same H13 (upd H19 du (.lst ([.ref t5, .ref t6] ++ [.ref t7] ++ [.ref t8]))) := Same.mut (s18.trans e19) nd13
  have keepU : ∀ {t : Addr} {xs : List V} {o : List V}, H19 t = some (.tup xs) → upd H19 du (.lst o) t = some (.tup xs) := fun {t xs o} h => by
    rw [upd_ne (ne_of h (e19 _ _ kl) (by intro z; cases z))]; exact h
  have k5 := keepU (o := [.ref t5, .ref t6] ++ [.ref t7] ++ [.ref t8]) (e19 _ _ k5)
  have k6 := keepU (o := [.ref t5, .ref t6] ++ [.ref t7] ++ [.ref t8]) (e19 _ _ k6)
  have k7 := keepU (o := [.ref t5, .ref t6] ++ [.ref t7] ++ [.ref t8]) (e19 _ _ k7)
  have k8 := keepU (o := [.ref t5, .ref t6] ++ [.ref t7] ++ [.ref t8]) ht8
  have kl : upd H19 du (.lst ([.ref t5, .ref t6] ++ [.ref t7] ++ [.ref t8])) du = some (.lst ([.ref t5, .ref t6] ++ [.ref t7] ++ [.ref t8])) := upd_same
  generalize upd H19 du (.lst ([.ref t5, .ref t6] ++ [.ref t7] ++ [.ref t8])) = H20 at s20 k5 k6 k7 k8 kl ⊢
  walk_at "gx"
  have hD20 := s20 _ _ hD13
  have T20 : Tups H20 ts fs := htups.up fun p' xs h' => s20 _ _ h'
  have D20 : Dp K H20 (.ref du) (.list (fs.map fun f => .tuple [.int f.1, .int f.2])) := by
    refine .lst (SqL.of kl) ?_
    rw [show (0 : Int) - n1 = -n1 by omega] at k8
    exact .cons (dp_pair k5) (.cons (dp_pair k6) (.cons (dp_pair k7) (.cons (dp_pair k8) .nil)))
  refine ne_same (.lst (SqL.of hD20) T20.dp) D20 (by rfl) ?_
  walk_at "gx"
  have hr1' : RatAt a H20 r1 (nm n1 d1) (dn n1 d1) := by walk_at "up"
  have hr2' : RatAt a H20 r2 (nm n2 d2) (dn n2 d2) := by walk_at "up"
  refine go_ratM hr1' (by decide +kernel) (by decide +kernel) ?_
  walk_at "gx"
  refine ⟨r1, .ref r2, _, _, _, _, rfl, hr1', .rat hr2', two, fun H21 e21 => ?_⟩
  walk_at "gx"
  refine go_dnT (by rw [low_cmp pos1 pos2, order_eq]) ?_
  walk_at "gx"
  have hr1'' := hr1'.up e21
  have hr2'' := hr2'.up e21
  have eqr : ∀ {H' : Hp} {R : VK}, RatAt a H' r1 (nm n1 d1) (dn n1 d1) → RatAt a H' r2 (nm n2 d2) (dn n2 d2) → (∀ H'', L2.Same H' H'' → R (.bl (decide (n1 * d2 = n2 * d1))) H'') → sp_Ratio___eq__ K a [.ref r1, .ref r2] H' R E := fun {H' R} h1 h2 q => by
    refine ⟨r1, .ref r2, _, _, _, rfl, h1, h2.kd hR, .inr ⟨_, _, .rat h2, fun H'' e => ?_⟩⟩
    rw [low_eq pos1 pos2]
    exact q H'' e
  have tyr : ∀ {H' : Hp}, RatAt a H' r2 (nm n2 d2) (dn n2 d2) → TyX K H' (.ref r2) (Ty.cls a.C_Ratio).val ∧ PySem.W.notFirst K a.C_Ratio (Ty.cls a.C_Ratio).val = true := fun h => ⟨(h.kd (K := K) hR).tyx F, nf_of F hR (h.kd (K := K) hR)⟩
  obtain ⟨dx1, x1⟩ := id hr1''
  refine ⟨r1, dx1, _, _, rfl, x1, (tyr hr2'').1, (tyr hr2'').2, eqr hr1'' hr2'' fun H22 e22 => ?_⟩
  walk_at "gx"
  refine go_dnT (by rfl) ?_
  walk_at "gx"
  obtain ⟨dx2, x2⟩ := id (hr1''.up e22)
  refine ⟨r1, dx2, _, _, rfl, x2, (tyr (hr2''.up e22)).1, (tyr (hr2''.up e22)).2, eqr (hr1''.up e22) (hr2''.up e22) fun H23 e23 => ⟨_, rfl, ?_⟩⟩
  walk_at "gx"
  have hr1c := (hr1''.up e22).up e23
  have hr2c := (hr2''.up e22).up e23
  obtain ⟨dx3, x3⟩ := id hr1c
  refine ⟨r1, dx3, _, _, rfl, x3, (tyr hr2c).1, (tyr hr2c).2, eqr hr1c hr2c fun H24 e24 => ?_⟩
  walk_at "gx"
  refine go_dF (by cases decide (n1 * d2 = n2 * d1) <;> decide) ?_
  have hc24 : H24 c = some (.tup [.int (n1 * d2), .int (n2 * d1)]) := by walk_at "up"
  have S24 : L2.Same H H24 := by
    have a1 := ((((e1.trans e2).trans e3).trans e4).trans e5).trans e6
    have a2 := ((((a1.trans e7).trans e8).trans e9).trans e10).trans e11
    exact ((((((a2.trans e12).trans e13).trans s20).trans e21).trans e22).trans e23).trans e24
  walk_at "gx"
  have hq24 := S24 _ _ hq
  have hp24 := S24 _ _ hp
  refine go_d (fun z => ?_) (fun z => ?_)
  · walk_at "gx"
    exact k H24 S24
  · walk_at "gx"
    refine go_ratM (hr1c.up e24) (by decide +kernel) (by decide +kernel) ?_
    walk_at "gx"
    have sg := sgn_nm pos2 z
    refine ⟨r1, .ref r2, _, _, _, _, rfl, hr1c.up e24, .rat (hr2c.up e24), two, sg.2, fun r7 H25 e25 hr7 => ?_⟩
    rw [(low_over pos1 pos2 z _ (sgn n2) sg.1 rfl).1, (low_over pos1 pos2 z _ (sgn n2) sg.1 rfl).2, ← (lowSgn pos1 z).1, ← (lowSgn pos1 z).2] at hr7
    walk_at "gx"
    refine parts_of hr7 fun t9 H26 _ e26 ht9 => ?_
    walk_at "gx"
    refine go_I (mm o1.bd.2.1 o2.bd.1) ?_
    walk_at "gx"
    refine ⟨_, _, rfl, ?_, (o1.bd.2.1.mul o2.bd.1).mono (by decide), fun t10 H27 _ e27 ht10 => ?_⟩
    · intro w
      rcases Int.mul_eq_zero.mp w with w | w <;> omega
    refine eq_same (dp_pair (e27 _ _ ht9)) (dp_pair ht10) (sh_pair _ _) ?_
    exact k H27 (((S24.trans e25).trans e26).trans e27)
theorem read__law_whole_right (F : KF K a) (hR : a.C_Ratio ∈ a.cls) (h : sp__law_whole_right K a vs H Q E) : rd__law_whole_right K a E (ends Q) (start nm__law_whole_right vs) H := by
  obtain ⟨p, n1, d1, m, rfl, hp, o1, hm0, hm1, k⟩ := h
  have pos1 := o1.bd.2.2
  have bm : Bd 64 m := Bd.small (by decide) (by omega) (by omega)
  have two : Two (nm n1 d1) (dn n1 d1) m 1 := ⟨(low_bd o1).2.2, by decide, (low_bd o1).1.mono (by decide), (low_bd o1).2.1.mono (by decide), bm.mono (by decide), Bd.small (by decide) (by decide) (by decide)⟩
  have mm : ∀ {x y : Int}, Bd 64 x → Bd 64 y → IntMulOk x y := fun h h' => h.cmul h'
  unfold rd__law_whole_right
  walk_at "gx"
  refine mk_ratio pos1 o1.b8 fun r1 H1 e1 hr1 => ?_
  walk_at "gx"
  refine go_I (mm bm o1.bd.2.1) ?_
  walk_at "gx"
  refine go_ratI hr1 ?_
  refine ⟨r1, .int m, _, _, _, _, rfl, hr1, .int, two, fun s1 H2 e2 hs1 => ?_⟩
  rw [(low_addI pos1).1, (low_addI pos1).2] at hs1
  walk_at "gx"
  refine go_ratF (hr1.up e2) ?_
  refine ⟨r1, .int m, _, _, _, _, rfl, hr1.up e2, .int, two, fun s2 H3 e3 hs2 => ?_⟩
  rw [(low_raddI pos1).1, (low_raddI pos1).2] at hs2
  walk_at "gx"
  have x3 : RatAt a H3 r1 (nm n1 d1) (dn n1 d1) := by walk_at "up"
  refine go_ratI x3 ?_
  refine ⟨r1, .int m, _, _, _, _, rfl, x3, .int, two, fun s3 H4 e4 hs3 => ?_⟩
  rw [(low_subI pos1).1, (low_subI pos1).2] at hs3
  walk_at "gx"
  have x4 := x3.up e4
  refine go_ratF x4 ?_
  refine ⟨r1, .int m, _, _, _, _, rfl, x4, .int, two, fun s4 H5 e5 hs4 => ?_⟩
  rw [(low_rsubI pos1).1, (low_rsubI pos1).2] at hs4
  walk_at "gx"
  have x5 := x4.up e5
  refine go_ratI x5 ?_
  refine ⟨r1, .int m, _, _, _, _, rfl, x5, .int, two, fun s5 H6 e6 hs5 => ?_⟩
  rw [(low_mulI pos1).1, (low_mulI pos1).2] at hs5
  walk_at "gx"
  have x6 := x5.up e6
  refine go_ratF x6 ?_
  refine ⟨r1, .int m, _, _, _, _, rfl, x6, .int, two, fun s6 H7 e7 hs6 => ?_⟩
  rw [(low_rmulI pos1).1, (low_rmulI pos1).2] at hs6
  walk_at "gx"
  walk_at "nw"
  rename_i l1 _ H8 e8 hl1
  have x8 := (x6.up e7).up e8
  walk_at "gx"
  refine go_I (mm o1.bd.1 bm) ?_
  walk_at "gx"
  refine go_I (mm o1.bd.1 bm) ?_
  walk_at "gx"
  walk_at "nw"
  rename_i l2 _ H9 e9 hl2
  have x9 := x8.up e9
  have hl1' := e9 _ _ hl1
  have hp9 : H9 p = some (.tup [.int n1, .int d1]) := by walk_at "up"
  walk_at "gx"
  have rats : ∀ i : Nat, i < 6 → ∃ (r : Addr) (z : Int), [V.ref s1, V.ref s2, V.ref s3, V.ref s4, V.ref s5, V.ref s6][i]? = some (.ref r) ∧ [V.int (n1 + m * d1), V.int (n1 + m * d1), V.int (n1 - m * d1), V.int (m * d1 - n1), V.int (n1 * m), V.int (n1 * m)][i]? = some (.int z) ∧ RatAt a H9 r (nm z d1) (dn z d1) := by
    intro i hi
    match i, hi with
    | 0, _ => exact ⟨s1, _, rfl, rfl, by walk_at "up"⟩
    | 1, _ => exact ⟨s2, _, rfl, rfl, by walk_at "up"⟩
    | 2, _ => exact ⟨s3, _, rfl, rfl, by walk_at "up"⟩
    | 3, _ => exact ⟨s4, _, rfl, rfl, by walk_at "up"⟩
    | 4, _ => exact ⟨s5, _, rfl, rfl, by walk_at "up"⟩
    | 5, _ => exact ⟨s6, _, rfl, rfl, by walk_at "up"⟩
  have S9 : L2.Same H H9 := (((((((e1.trans e2).trans e3).trans e4).trans e5).trans e6).trans e7).trans e8).trans e9
  refine ⟨6, rfl, by decide, by decide, for_range (lo := 0) (n := 6) (fun i σ H' => ∃ t : Option V, σ = [some (.ref p), some (.int m), some (.ref r1), some (.int (m * d1)), some (.ref l1), some (.ref l2), t] ∧ L2.Same H9 H') ⟨none, rfl, L2.Same.refl _⟩ ?_ ?_⟩
  · rintro i σ H' hi ⟨t, rfl, e⟩
    obtain ⟨r, z, g1, g2, g3⟩ := rats i hi
    rw [show (0 : Int) + (i : Int) = (i : Int) by omega]
    walk_at "gx"
    refine go_ixL (SqL.of (e _ _ hl1')) (atI_nat g1) ?_
    walk_at "gx"
    refine parts_of (g3.up e) fun t1 Ha _ ea ht1 => ?_
    walk_at "gx"
    refine go_ixL (SqL.of (ea _ _ (e _ _ hl2))) (atI_nat g2) ?_
    have hpa := ea _ _ (e _ _ hp9)
    walk_at "gx"
    refine lowest_of pos1 o1.b8 fun t2 Hb _ eb ht2 => ?_
    refine ne_same (dp_pair (eb _ _ ht1)) (dp_pair ht2) (sh_pair _ _) ?_
    walk_at "gx"
    exact ⟨_, rfl, (e.trans ea).trans eb⟩
  · rintro σ H10 ⟨t, rfl, e10⟩
    have x10 := x9.up e10
    have hp10 := e10 _ _ hp9
    walk_at "gx"
    refine go_ratM x10 (by decide +kernel) (by decide +kernel) ?_
    walk_at "gx"
    refine go_two rfl rfl ?_
    refine ⟨r1, .int m, _, _, _, _, rfl, x10, .int, two, fun H11 e11 => ?_⟩
    have x11 := x10.up e11
    have hp11 := e11 _ _ hp10
    walk_at "gx"
    refine go_dnT (by rw [low_cmpI pos1, order_eq]) ?_
    walk_at "gx"
    have eqr : ∀ {Hc : Hp} {R : VK}, RatAt a Hc r1 (nm n1 d1) (dn n1 d1) → (∀ Hd, L2.Same Hc Hd → R (.bl (decide (n1 = m * d1))) Hd) → sp_Ratio___eq__ K a [.ref r1, .int m] Hc R E := fun {Hc R} h1 q => by
      refine ⟨r1, .int m, _, _, .int, rfl, h1, .int m, .inr ⟨m, 1, .int, fun Hd e => ?_⟩⟩
      rw [low_eqI pos1]
      exact q Hd e
    obtain ⟨dx1, y1⟩ := id x11
    refine ⟨r1, dx1, _, _, rfl, y1, (Kd.int (K := K) (a := a) (H := H11) m).tyx F, nf_of F hR (Kd.int (K := K) (a := a) (H := H11) m), eqr x11 fun H12 e12 => ?_⟩
    walk_at "gx"
    refine go_ratF (x11.up e12) ?_
    refine eqr (x11.up e12) fun H13 e13 => ?_
    walk_at "gx"
    walk_at "nw"
    rename_i l3 _ H14 e14 hl3
    have hp14 := e14 _ _ (e13 _ _ (e12 _ _ hp11))
    walk_at "gx"
    walk_at "nw"
    rename_i l4 _ H15 e15 hl4
    walk_at "gx"
    refine ⟨l4, 2, _, rfl, rfl, hl4, by decide, by decide, szL (by simp), ?_⟩
    walk_at "nw0"
    rename_i l5 _ H16 e16 hl5
    refine ne_same (d := .list [.bool (decide (n1 = m * d1)), .bool (decide (n1 = m * d1))]) (.lst (SqL.of (e16 _ _ (e15 _ _ hl3))) (.cons (.bl _) (.cons (.bl _) .nil))) (.lst (SqL.of hl5) (.cons (.bl _) (.cons (.bl _) .nil))) (by rfl) ?_
    have S16 : L2.Same H11 H16 := (((e12.trans e13).trans e14).trans e15).trans e16
    have x16 := x11.up S16
    have hp16 := S16 _ _ hp11
    walk_at "gx"
    walk_at "nw"
    rename_i t3 _ H17 e17 ht3
    have x17 := x16.up e17
    obtain ⟨dx2, y2⟩ := id x17
    refine ⟨r1, dx2, _, _, rfl, y2, (Kd.tup (K := K) (a := a) ht3).tyx F, nf_of F hR (Kd.tup (K := K) (a := a) ht3), ⟨r1, .ref t3, _, _, _, rfl, x17, .tup ht3, .inl ⟨by simp, by simp, ?_⟩⟩⟩
    walk_at "gx"
    have S17 : L2.Same H H17 := ((S9.trans e10).trans e11).trans (S16.trans e17)
    refine go_d (fun z => ?_) (fun z => ?_)
    · walk_at "gx"
      exact k H17 S17
    · walk_at "gx"
      refine go_ratM x17 (by decide +kernel) (by decide +kernel) ?_
      walk_at "gx"
      refine go_two rfl rfl ?_
      refine ⟨r1, .int m, _, _, _, _, rfl, x17, .int, two, z, fun r7 H18 e18 hr7 => ?_⟩
      rw [(low_overI pos1 z).1, (low_overI pos1 z).2, ← (lowSgn pos1 z).1, ← (lowSgn pos1 z).2, Int.mul_one] at hr7
      walk_at "gx"
      refine parts_of hr7 fun t9 H19 _ e19 ht9 => ?_
      have hp19 := e19 _ _ (e18 _ _ (e17 _ _ hp16))
      walk_at "gx"
      refine go_I (mm o1.bd.2.1 bm) ?_
      walk_at "gx"
      refine ⟨_, _, rfl, ?_, (o1.bd.2.1.mul bm).mono (by decide), fun t10 H20 _ e20 ht10 => ?_⟩
      · intro w
        rcases Int.mul_eq_zero.mp w with w | w <;> omega
      refine eq_same (dp_pair (e20 _ _ ht9)) (dp_pair ht10) (sh_pair _ _) ?_
      exact k H20 (((S17.trans e18).trans e19).trans e20)
theorem read__law_right (h : sp__law_right K a vs H Q E) : rd__law_right K a E (ends Q) (start nm__law_right vs) H := by
  obtain ⟨b, rfl, hb, k⟩ := h
  unfold rd__law_right
  walk_at "go"
  refine ⟨10, rfl, by decide, by decide, for_range (lo := 0) (n := 10) (fun i σ H' => ∃ t u v : Option V, σ = [some (.ref b), t, u, v] ∧ Grow b H H') ⟨none, none, none, rfl, .refl hb⟩ ?_ ?_⟩
  · rintro i σ H1 hi ⟨t, u, v, rfl, g1⟩
    walk_at "go"
    refine ⟨b, rfl, g1.b1, fun p n1 d1 H2 g2 hp o1 => ?_⟩
    walk_at "go"
    refine ⟨b, rfl, g2.b1, fun q n2 d2 H3 g3 hq o2 => ?_⟩
    walk_at "go"
    have hp3 := g3.tup hp
    refine ⟨p, q, n1, d1, n2, d2, rfl, hp3, hq, o1, o2, fun H4 e4 => ?_⟩
    have hq4 := e4 _ _ hq
    walk_at "gx"
    refine ⟨p, n1, d1, n2, rfl, e4 _ _ hp3, o1, o2.1, o2.2.1, fun H5 e5 => ?_⟩
    walk_at "go"
    exact ⟨_, _, _, rfl, ((g1.trans g2).trans g3).trans (.same g3.b1 (e4.trans e5))⟩
  · rintro σ H1 ⟨t, u, v, rfl, g1⟩
    walk_at "go"
    exact k H1 g1
theorem rat_eq {x y : Int} (e : nm x y = nm x y) : True := trivial
theorem read_law (F : KF K a) (hR : a.C_Ratio ∈ a.cls) (h : sp_law K a vs H Q E) : rd_law K a E (ends Q) (start nm_law vs) H := by
  obtain ⟨p, ns, rfl, hp, hlen, k⟩ := h
  have sb : ∀ {x : Int}, -1000000000000 ≤ x → x ≤ 1000000000000 → Bd 8000 x := fun h0 h1 => Bd.small (by decide) h0 h1
  unfold rd_law
  walk_at "go"
  refine mk_ratio (n := 6) (d := 12) (by decide) (sb (by decide) (by decide)) fun r1 H1 e1 hr1 => ?_
  rw [show nm 6 12 = 1 from by decide, show dn 6 12 = 2 from by decide] at hr1
  walk_at "gx"
  refine mk_ratio (n := 0) (d := 7) (by decide) (sb (by decide) (by decide)) fun r2 H2 e2 hr2 => ?_
  rw [show nm 0 7 = 0 from by decide, show dn 0 7 = 1 from by decide] at hr2
  walk_at "gx"
  refine mk_ratio1 fun r3 H3 e3 hr3 => ?_
  walk_at "gx"
  obtain ⟨dx3, y3⟩ := id hr3
  refine ⟨r3, dx3, _, _, rfl, y3, (Kd.bl (K := K) (a := a) (H := H3) true).tyx F, nf_of F hR (Kd.bl (K := K) (a := a) (H := H3) true), ⟨r3, .bl true, _, _, .bl, rfl, hr3, .bl true, .inl ⟨by simp, by simp, ?_⟩⟩⟩
  walk_at "gx"
  refine mk_ratio (n := 4) (d := 2) (by decide) (sb (by decide) (by decide)) fun r4 H4 e4 hr4 => ?_
  rw [show nm 4 2 = 2 from by decide, show dn 4 2 = 1 from by decide] at hr4
  walk_at "gx"
  obtain ⟨dx4, y4⟩ := id hr4
  refine ⟨r4, dx4, _, _, rfl, y4, (Kd.int (K := K) (a := a) (H := H4) 2).tyx F, nf_of F hR (Kd.int (K := K) (a := a) (H := H4) 2), ⟨r4, .int 2, _, _, .int, rfl, hr4, .int 2, .inr ⟨2, 1, .int, fun H5 e5 => ?_⟩⟩⟩
  walk_at "gx"
  walk_at "nw"
  rename_i l1 _ H6 e6 hl1
  walk_at "gx"
  walk_at "nw"
  rename_i l2 _ H7 e7 hl2
  refine ne_same (d := .list [.int 1, .int 2, .int 1, .bool false, .bool true]) (.lst (SqL.of (e7 _ _ hl1)) (.cons (.int _) (.cons (.int _) (.cons (.int _) (.cons (.bl _) (.cons (.bl _) .nil)))))) (.lst (SqL.of hl2) (.cons (.int _) (.cons (.int _) (.cons (.int _) (.cons (.bl _) (.cons (.bl _) .nil)))))) (by rfl) ?_
  have S7 : L2.Same H H7 := (((((e1.trans e2).trans e3).trans e4).trans e5).trans e6).trans e7
  have hp7 := S7.seq hp
  walk_at "gx"
  refine go_lenL hp7 ?_
  walk_at "gx"
  have lz : (List.map V.int ns).length = ns.length := List.length_map _
  rw [lz]
  have nb : ∀ n : Int, n = (if (if (6 : Int) < ns.length then 6 else (ns.length : Int)) > 2 then (if (6 : Int) < ns.length then 6 else (ns.length : Int)) else 2) → 2 ≤ n ∧ n ≤ 6 := by
    intro n e
    split at e <;> split at e <;> omega
  generalize hn : (if (if (6 : Int) < ns.length then 6 else (ns.length : Int)) > 2 then (if (6 : Int) < ns.length then 6 else (ns.length : Int)) else 2) = n
  obtain ⟨n2, n6⟩ := nb n hn.symm
  refine ⟨n, rfl, by omega, by omega, fun D hD => ?_⟩
  refine lc_range (lo := 0) (n := n.toNat) (fun i H' => L2.Same H7 H' ∧ H' D = some (.lst ((List.replicate i true).map V.bl))) ⟨Same.new hD, upd_same⟩ ?_ ?_
  · rintro i H8 hi ⟨e8, hD8⟩
    walk_at "go"
    refine ⟨rfl, ?_⟩
    walk_at "go"
    refine ⟨p, ns, i, by simp, e8.seq hp7, fun b H9 nb e9 hb => ?_⟩
    walk_at "go"
    refine ⟨b, rfl, hb, fun H10 g10 => ?_⟩
    have nDb : D ≠ b := ne_of_none hD8 nb
    have hD10 := g10.keep D _ nDb (e9 _ _ hD8)
    refine ⟨_, hD10, ?_, ?_, ?_⟩
    · rw [List.length_map, List.length_replicate]; exact small1000 (by omega)
    · intro p' o h'
      have n1 : p' ≠ D := ne_of_none h' hD
      have h8 := e8 _ _ h'
      have n2 : p' ≠ b := ne_of_none h8 nb
      rw [upd_ne n1]
      exact g10.keep _ _ n2 (e9 _ _ h8)
    · rw [upd_same, List.replicate_succ', List.map_append]; rfl
  · rintro H8 ⟨e8, hD8⟩
    walk_at "go"
    refine go_all (SqL.of hD8) ?_
    rw [show (List.replicate n.toNat true).all id = true by simp]
    exact k H8
end
end SL

set_option Elab.async false
set_option linter.all false
set_option maxRecDepth 100000
set_option maxHeartbeats 4000000
namespace SL
open PySem L2
/-! ### the text by places -/
def topS (i : Nat) : Stmt := PySem.Challenge.pw_slackstrings_k01_ratios_reckoned.main.body.getD i (.Pass ⟨0, 0, 0, 0⟩)
abbrev st_is_integer : Stmt := (topS 1)
abbrev st_shared_factor : Stmt := (topS 7)
abbrev st_Ratio___init__ : Stmt := (inClass (topS 14) 0)
abbrev st_as_ratio : Stmt := (topS 9)
abbrev st_is_fraction : Stmt := (topS 8)
abbrev st_Ratio___eq__ : Stmt := (inClass (topS 14) 11)
abbrev st__law_bag : Stmt := (topS 16)
abbrev st__law_draw : Stmt := (topS 17)
abbrev st__law_one : Stmt := (topS 18)
abbrev st__law_pair : Stmt := (topS 20)
abbrev st_Ratio___add__ : Stmt := (inClass (topS 14) 4)
abbrev st_Ratio___mul__ : Stmt := (inClass (topS 14) 8)
abbrev st_Ratio___neg__ : Stmt := (inClass (topS 14) 10)
abbrev st_Ratio___sub__ : Stmt := (inClass (topS 14) 6)
abbrev st_compared : Stmt := (topS 10)
abbrev st_Ratio_compared : Stmt := (inClass (topS 14) 3)
abbrev st_Ratio_over : Stmt := (inClass (topS 14) 2)
abbrev st__law_lowest : Stmt := (topS 19)
abbrev st__law_parts : Stmt := (topS 21)
abbrev st__law_pair_right : Stmt := (topS 22)
abbrev st_Ratio___radd__ : Stmt := (inClass (topS 14) 5)
abbrev st_Ratio___rmul__ : Stmt := (inClass (topS 14) 9)
abbrev st_Ratio___rsub__ : Stmt := (inClass (topS 14) 7)
abbrev st__law_whole_right : Stmt := (topS 23)
abbrev st__law_right : Stmt := (topS 24)
abbrev st_law : Stmt := (topS 25)
theorem sc_is_integer : FnScope nm_is_integer ["value"] (defScope st_is_integer) := ⟨rfl, rfl, rfl, by decide +kernel, rfl, by decide +kernel, by decide +kernel⟩
theorem sc_shared_factor : FnScope nm_shared_factor ["one", "two"] (defScope st_shared_factor) := ⟨rfl, rfl, rfl, by decide +kernel, rfl, by decide +kernel, by decide +kernel⟩
theorem sc_Ratio___init__ : FnScope nm_Ratio___init__ ["self", "top", "bottom"] (defScope st_Ratio___init__) := ⟨rfl, rfl, rfl, by decide +kernel, rfl, by decide +kernel, by decide +kernel⟩
theorem sc_as_ratio : FnScope nm_as_ratio ["value"] (defScope st_as_ratio) := ⟨rfl, rfl, rfl, by decide +kernel, rfl, by decide +kernel, by decide +kernel⟩
theorem sc_is_fraction : FnScope nm_is_fraction ["value"] (defScope st_is_fraction) := ⟨rfl, rfl, rfl, by decide +kernel, rfl, by decide +kernel, by decide +kernel⟩
theorem sc_Ratio___eq__ : FnScope nm_Ratio___eq__ ["self", "other"] (defScope st_Ratio___eq__) := ⟨rfl, rfl, rfl, by decide +kernel, rfl, by decide +kernel, by decide +kernel⟩
theorem sc__law_bag : FnScope nm__law_bag ["_law_cells", "_law_k"] (defScope st__law_bag) := ⟨rfl, rfl, rfl, by decide +kernel, rfl, by decide +kernel, by decide +kernel⟩
theorem sc__law_draw : FnScope nm__law_draw ["_law_bag_here", "_law_wide"] (defScope st__law_draw) := ⟨rfl, rfl, rfl, by decide +kernel, rfl, by decide +kernel, by decide +kernel⟩
theorem sc__law_one : FnScope nm__law_one ["_law_bag_here", "_law_some"] (defScope st__law_one) := ⟨rfl, rfl, rfl, by decide +kernel, rfl, by decide +kernel, by decide +kernel⟩
theorem sc__law_pair : FnScope nm__law_pair ["_law_bag_here"] (defScope st__law_pair) := ⟨rfl, rfl, rfl, by decide +kernel, rfl, by decide +kernel, by decide +kernel⟩
theorem sc_Ratio___add__ : FnScope nm_Ratio___add__ ["self", "other"] (defScope st_Ratio___add__) := ⟨rfl, rfl, rfl, by decide +kernel, rfl, by decide +kernel, by decide +kernel⟩
theorem sc_Ratio___mul__ : FnScope nm_Ratio___mul__ ["self", "other"] (defScope st_Ratio___mul__) := ⟨rfl, rfl, rfl, by decide +kernel, rfl, by decide +kernel, by decide +kernel⟩
theorem sc_Ratio___neg__ : FnScope nm_Ratio___neg__ ["self"] (defScope st_Ratio___neg__) := ⟨rfl, rfl, rfl, by decide +kernel, rfl, by decide +kernel, by decide +kernel⟩
theorem sc_Ratio___sub__ : FnScope nm_Ratio___sub__ ["self", "other"] (defScope st_Ratio___sub__) := ⟨rfl, rfl, rfl, by decide +kernel, rfl, by decide +kernel, by decide +kernel⟩
theorem sc_compared : FnScope nm_compared ["one", "other"] (defScope st_compared) := ⟨rfl, rfl, rfl, by decide +kernel, rfl, by decide +kernel, by decide +kernel⟩
theorem sc_Ratio_compared : FnScope nm_Ratio_compared ["self", "other"] (defScope st_Ratio_compared) := ⟨rfl, rfl, rfl, by decide +kernel, rfl, by decide +kernel, by decide +kernel⟩
theorem sc_Ratio_over : FnScope nm_Ratio_over ["self", "other"] (defScope st_Ratio_over) := ⟨rfl, rfl, rfl, by decide +kernel, rfl, by decide +kernel, by decide +kernel⟩
theorem sc__law_lowest : FnScope nm__law_lowest ["_law_upper", "_law_lower"] (defScope st__law_lowest) := ⟨rfl, rfl, rfl, by decide +kernel, rfl, by decide +kernel, by decide +kernel⟩
theorem sc__law_parts : FnScope nm__law_parts ["_law_made"] (defScope st__law_parts) := ⟨rfl, rfl, rfl, by decide +kernel, rfl, by decide +kernel, by decide +kernel⟩
theorem sc__law_pair_right : FnScope nm__law_pair_right ["_law_one_here", "_law_two"] (defScope st__law_pair_right) := ⟨rfl, rfl, rfl, by decide +kernel, rfl, by decide +kernel, by decide +kernel⟩
theorem sc_Ratio___radd__ : FnScope nm_Ratio___radd__ ["self", "other"] (defScope st_Ratio___radd__) := ⟨rfl, rfl, rfl, by decide +kernel, rfl, by decide +kernel, by decide +kernel⟩
theorem sc_Ratio___rmul__ : FnScope nm_Ratio___rmul__ ["self", "other"] (defScope st_Ratio___rmul__) := ⟨rfl, rfl, rfl, by decide +kernel, rfl, by decide +kernel, by decide +kernel⟩
theorem sc_Ratio___rsub__ : FnScope nm_Ratio___rsub__ ["self", "other"] (defScope st_Ratio___rsub__) := ⟨rfl, rfl, rfl, by decide +kernel, rfl, by decide +kernel, by decide +kernel⟩
theorem sc__law_whole_right : FnScope nm__law_whole_right ["_law_one_here", "_law_many"] (defScope st__law_whole_right) := ⟨rfl, rfl, rfl, by decide +kernel, rfl, by decide +kernel, by decide +kernel⟩
theorem sc__law_right : FnScope nm__law_right ["_law_bag_here"] (defScope st__law_right) := ⟨rfl, rfl, rfl, by decide +kernel, rfl, by decide +kernel, by decide +kernel⟩
theorem sc_law : FnScope nm_law ["_law_cells"] (defScope st_law) := ⟨rfl, rfl, rfl, by decide +kernel, rfl, by decide +kernel, by decide +kernel⟩
/-- the defs' addresses and data -/
structure Fx where
  f_is_integer : Addr
  d_is_integer : FuncData
  f_shared_factor : Addr
  d_shared_factor : FuncData
  f_Ratio___init__ : Addr
  d_Ratio___init__ : FuncData
  f_as_ratio : Addr
  d_as_ratio : FuncData
  f_is_fraction : Addr
  d_is_fraction : FuncData
  f_Ratio___eq__ : Addr
  d_Ratio___eq__ : FuncData
  f__law_bag : Addr
  d__law_bag : FuncData
  f__law_draw : Addr
  d__law_draw : FuncData
  f__law_one : Addr
  d__law_one : FuncData
  f__law_pair : Addr
  d__law_pair : FuncData
  f_Ratio___add__ : Addr
  d_Ratio___add__ : FuncData
  f_Ratio___mul__ : Addr
  d_Ratio___mul__ : FuncData
  f_Ratio___neg__ : Addr
  d_Ratio___neg__ : FuncData
  f_Ratio___sub__ : Addr
  d_Ratio___sub__ : FuncData
  f_compared : Addr
  d_compared : FuncData
  f_Ratio_compared : Addr
  d_Ratio_compared : FuncData
  f_Ratio_over : Addr
  d_Ratio_over : FuncData
  f__law_lowest : Addr
  d__law_lowest : FuncData
  f__law_parts : Addr
  d__law_parts : FuncData
  f__law_pair_right : Addr
  d__law_pair_right : FuncData
  f_Ratio___radd__ : Addr
  d_Ratio___radd__ : FuncData
  f_Ratio___rmul__ : Addr
  d_Ratio___rmul__ : FuncData
  f_Ratio___rsub__ : Addr
  d_Ratio___rsub__ : FuncData
  f__law_whole_right : Addr
  d__law_whole_right : FuncData
  f__law_right : Addr
  d__law_right : FuncData
  f_law : Addr
  d_law : FuncData
  fo_Ratio_add : Option Value
  ro_Ratio_add : Option Value
  fo_Ratio_mul : Option Value
  ro_Ratio_mul : Option Value
  fo_Ratio_sub : Option Value
  ro_Ratio_sub : Option Value
/-- what the top has written -/
structure Txt (K : PySem.W.Frag) (mg : Str → Option Value) (a : Cl) (x : Fx) : Prop where
  kf : KF K a
  in_Ratio : a.C_Ratio ∈ a.cls
  F_is_integer : Fun K "is_integer" "is_integer" st_is_integer x.f_is_integer x.d_is_integer
  b_is_integer : Binds K x.d_is_integer ["value"] []
  F_shared_factor : Fun K "shared_factor" "shared_factor" st_shared_factor x.f_shared_factor x.d_shared_factor
  b_shared_factor : Binds K x.d_shared_factor ["one", "two"] []
  F_Ratio___init__ : FunD K "__init__" "Ratio.__init__" (defArgs st_Ratio___init__) (defBody st_Ratio___init__) (defScope st_Ratio___init__) [.int 1] [] x.f_Ratio___init__ x.d_Ratio___init__
  b_Ratio___init__ : Binds K x.d_Ratio___init__ ["self", "top", "bottom"] []
  F_as_ratio : Fun K "as_ratio" "as_ratio" st_as_ratio x.f_as_ratio x.d_as_ratio
  b_as_ratio : Binds K x.d_as_ratio ["value"] []
  F_is_fraction : Fun K "is_fraction" "is_fraction" st_is_fraction x.f_is_fraction x.d_is_fraction
  b_is_fraction : Binds K x.d_is_fraction ["value"] []
  F_Ratio___eq__ : Fun K "__eq__" "Ratio.__eq__" st_Ratio___eq__ x.f_Ratio___eq__ x.d_Ratio___eq__
  b_Ratio___eq__ : Binds K x.d_Ratio___eq__ ["self", "other"] []
  F__law_bag : Fun K "_law_bag" "_law_bag" st__law_bag x.f__law_bag x.d__law_bag
  b__law_bag : Binds K x.d__law_bag ["_law_cells", "_law_k"] []
  F__law_draw : Fun K "_law_draw" "_law_draw" st__law_draw x.f__law_draw x.d__law_draw
  b__law_draw : Binds K x.d__law_draw ["_law_bag_here", "_law_wide"] []
  F__law_one : Fun K "_law_one" "_law_one" st__law_one x.f__law_one x.d__law_one
  b__law_one : Binds K x.d__law_one ["_law_bag_here", "_law_some"] []
  F__law_pair : Fun K "_law_pair" "_law_pair" st__law_pair x.f__law_pair x.d__law_pair
  b__law_pair : Binds K x.d__law_pair ["_law_bag_here"] []
  F_Ratio___add__ : Fun K "__add__" "Ratio.__add__" st_Ratio___add__ x.f_Ratio___add__ x.d_Ratio___add__
  b_Ratio___add__ : Binds K x.d_Ratio___add__ ["self", "other"] []
  F_Ratio___mul__ : Fun K "__mul__" "Ratio.__mul__" st_Ratio___mul__ x.f_Ratio___mul__ x.d_Ratio___mul__
  b_Ratio___mul__ : Binds K x.d_Ratio___mul__ ["self", "other"] []
  F_Ratio___neg__ : Fun K "__neg__" "Ratio.__neg__" st_Ratio___neg__ x.f_Ratio___neg__ x.d_Ratio___neg__
  b_Ratio___neg__ : Binds K x.d_Ratio___neg__ ["self"] []
  F_Ratio___sub__ : Fun K "__sub__" "Ratio.__sub__" st_Ratio___sub__ x.f_Ratio___sub__ x.d_Ratio___sub__
  b_Ratio___sub__ : Binds K x.d_Ratio___sub__ ["self", "other"] []
  F_compared : Fun K "compared" "compared" st_compared x.f_compared x.d_compared
  b_compared : Binds K x.d_compared ["one", "other"] []
  F_Ratio_compared : Fun K "compared" "Ratio.compared" st_Ratio_compared x.f_Ratio_compared x.d_Ratio_compared
  b_Ratio_compared : Binds K x.d_Ratio_compared ["self", "other"] []
  F_Ratio_over : Fun K "over" "Ratio.over" st_Ratio_over x.f_Ratio_over x.d_Ratio_over
  b_Ratio_over : Binds K x.d_Ratio_over ["self", "other"] []
  F__law_lowest : Fun K "_law_lowest" "_law_lowest" st__law_lowest x.f__law_lowest x.d__law_lowest
  b__law_lowest : Binds K x.d__law_lowest ["_law_upper", "_law_lower"] []
  F__law_parts : Fun K "_law_parts" "_law_parts" st__law_parts x.f__law_parts x.d__law_parts
  b__law_parts : Binds K x.d__law_parts ["_law_made"] []
  F__law_pair_right : Fun K "_law_pair_right" "_law_pair_right" st__law_pair_right x.f__law_pair_right x.d__law_pair_right
  b__law_pair_right : Binds K x.d__law_pair_right ["_law_one_here", "_law_two"] []
  F_Ratio___radd__ : Fun K "__radd__" "Ratio.__radd__" st_Ratio___radd__ x.f_Ratio___radd__ x.d_Ratio___radd__
  b_Ratio___radd__ : Binds K x.d_Ratio___radd__ ["self", "other"] []
  F_Ratio___rmul__ : Fun K "__rmul__" "Ratio.__rmul__" st_Ratio___rmul__ x.f_Ratio___rmul__ x.d_Ratio___rmul__
  b_Ratio___rmul__ : Binds K x.d_Ratio___rmul__ ["self", "other"] []
  F_Ratio___rsub__ : Fun K "__rsub__" "Ratio.__rsub__" st_Ratio___rsub__ x.f_Ratio___rsub__ x.d_Ratio___rsub__
  b_Ratio___rsub__ : Binds K x.d_Ratio___rsub__ ["self", "other"] []
  F__law_whole_right : Fun K "_law_whole_right" "_law_whole_right" st__law_whole_right x.f__law_whole_right x.d__law_whole_right
  b__law_whole_right : Binds K x.d__law_whole_right ["_law_one_here", "_law_many"] []
  F__law_right : Fun K "_law_right" "_law_right" st__law_right x.f__law_right x.d__law_right
  b__law_right : Binds K x.d__law_right ["_law_bag_here"] []
  F_law : Fun K "law" "law" st_law x.f_law x.d_law
  b_law : Binds K x.d_law ["_law_cells"] []
  g__law_bag : mg "_law_bag" = some (.ref x.f__law_bag)
  g__law_draw : mg "_law_draw" = some (.ref x.f__law_draw)
  g__law_lowest : mg "_law_lowest" = some (.ref x.f__law_lowest)
  g__law_one : mg "_law_one" = some (.ref x.f__law_one)
  g__law_pair : mg "_law_pair" = some (.ref x.f__law_pair)
  g__law_pair_right : mg "_law_pair_right" = some (.ref x.f__law_pair_right)
  g__law_parts : mg "_law_parts" = some (.ref x.f__law_parts)
  g__law_right : mg "_law_right" = some (.ref x.f__law_right)
  g__law_whole_right : mg "_law_whole_right" = some (.ref x.f__law_whole_right)
  g_as_ratio : mg "as_ratio" = some (.ref x.f_as_ratio)
  g_compared_ratios : mg "compared_ratios" = some (.ref x.f_compared)
  g_is_fraction : mg "is_fraction" = some (.ref x.f_is_fraction)
  g_is_integer : mg "is_integer" = some (.ref x.f_is_integer)
  g_shared_factor : mg "shared_factor" = some (.ref x.f_shared_factor)
  n_abs : mg "abs" = none
  n_all : mg "all" = none
  n_bool : mg "bool" = none
  n_int : mg "int" = none
  n_isinstance : mg "isinstance" = none
  n_len : mg "len" = none
  n_max : mg "max" = none
  n_min : mg "min" = none
  n_range : mg "range" = none
  g_Ratio : mg "Ratio" = some (.ref a.C_Ratio)
  cl_Ratio : Cls K a.C_Ratio
  sf_Ratio : PySem.W.selfFirst K a.C_Ratio = true
  int_Ratio : PySem.W.subIn K (.type "int") (.ref a.C_Ratio) = some false
  sub_Ratio : PySem.W.subIn K (.ref a.C_Ratio) (.type "int") = some false
  mk_Ratio : Mk K a.C_Ratio x.f_Ratio___init__
  na_Ratio_bottom : NoAttr K a.C_Ratio "bottom"
  na_Ratio_top : NoAttr K a.C_Ratio "top"
  m_Ratio_compared : Meth K a.C_Ratio "compared" x.f_Ratio_compared
  m_Ratio_over : Meth K a.C_Ratio "over" x.f_Ratio_over
  o_Ratio_add : OwnOp K a.C_Ratio x.f_Ratio___add__ (PySem.dunder "add")
  r_Ratio_add : Refl K a.C_Ratio x.f_Ratio___add__ x.f_Ratio___radd__ "add" x.fo_Ratio_add x.ro_Ratio_add
  o_Ratio_mul : OwnOp K a.C_Ratio x.f_Ratio___mul__ (PySem.dunder "mul")
  r_Ratio_mul : Refl K a.C_Ratio x.f_Ratio___mul__ x.f_Ratio___rmul__ "mul" x.fo_Ratio_mul x.ro_Ratio_mul
  o_Ratio_sub : OwnOp K a.C_Ratio x.f_Ratio___sub__ (PySem.dunder "sub")
  r_Ratio_sub : Refl K a.C_Ratio x.f_Ratio___sub__ x.f_Ratio___rsub__ "sub" x.fo_Ratio_sub x.ro_Ratio_sub
  o_Ratio_eq : OwnOp K a.C_Ratio x.f_Ratio___eq__ "__eq__"
  ne_Ratio : PySem.W.findIn K (.ref a.C_Ratio) "__ne__" = some (some (.builtin "object.__ne__"))
  ob_Ratio : PySem.W.subIn K (.ref a.C_Ratio) (.type "object") = some true
  o_Ratio_neg : OwnOp K a.C_Ratio x.f_Ratio___neg__ "__neg__"
  kb_Ratio___init___0_bottom_top : ∃ g, KBn K x.d_Ratio___init__ ["self", "top", "bottom"] 1 ["bottom", "top"] g gv_Ratio___init___0_bottom_top
  kb_Ratio_compared_0_other : ∃ g, KBn K x.d_Ratio_compared ["self", "other"] 1 ["other"] g gv_Ratio_compared_0_other
  kb_Ratio_over_0_other : ∃ g, KBn K x.d_Ratio_over ["self", "other"] 1 ["other"] g gv_Ratio_over_0_other
  bd_Ratio___init___1 : ∃ ds, Vals [.int 1] ds ∧ Binds K x.d_Ratio___init__ ["self", "top", "bottom"] ds
theorem Txt.kp_is_integer {K : PySem.W.Frag} {mg : Str → Option Value} {a : Cl} {x : Fx} (T : Txt K mg a x) : PySem.W.keepIn K (.ref x.f_is_integer) = true := T.F_is_integer.kp
theorem Txt.kp_shared_factor {K : PySem.W.Frag} {mg : Str → Option Value} {a : Cl} {x : Fx} (T : Txt K mg a x) : PySem.W.keepIn K (.ref x.f_shared_factor) = true := T.F_shared_factor.kp
theorem Txt.kp_Ratio___init__ {K : PySem.W.Frag} {mg : Str → Option Value} {a : Cl} {x : Fx} (T : Txt K mg a x) : PySem.W.keepIn K (.ref x.f_Ratio___init__) = true := T.F_Ratio___init__.kp
theorem Txt.kp_as_ratio {K : PySem.W.Frag} {mg : Str → Option Value} {a : Cl} {x : Fx} (T : Txt K mg a x) : PySem.W.keepIn K (.ref x.f_as_ratio) = true := T.F_as_ratio.kp
theorem Txt.kp_is_fraction {K : PySem.W.Frag} {mg : Str → Option Value} {a : Cl} {x : Fx} (T : Txt K mg a x) : PySem.W.keepIn K (.ref x.f_is_fraction) = true := T.F_is_fraction.kp
theorem Txt.kp_Ratio___eq__ {K : PySem.W.Frag} {mg : Str → Option Value} {a : Cl} {x : Fx} (T : Txt K mg a x) : PySem.W.keepIn K (.ref x.f_Ratio___eq__) = true := T.F_Ratio___eq__.kp
theorem Txt.kp__law_bag {K : PySem.W.Frag} {mg : Str → Option Value} {a : Cl} {x : Fx} (T : Txt K mg a x) : PySem.W.keepIn K (.ref x.f__law_bag) = true := T.F__law_bag.kp
theorem Txt.kp__law_draw {K : PySem.W.Frag} {mg : Str → Option Value} {a : Cl} {x : Fx} (T : Txt K mg a x) : PySem.W.keepIn K (.ref x.f__law_draw) = true := T.F__law_draw.kp
theorem Txt.kp__law_one {K : PySem.W.Frag} {mg : Str → Option Value} {a : Cl} {x : Fx} (T : Txt K mg a x) : PySem.W.keepIn K (.ref x.f__law_one) = true := T.F__law_one.kp
theorem Txt.kp__law_pair {K : PySem.W.Frag} {mg : Str → Option Value} {a : Cl} {x : Fx} (T : Txt K mg a x) : PySem.W.keepIn K (.ref x.f__law_pair) = true := T.F__law_pair.kp
theorem Txt.kp_Ratio___add__ {K : PySem.W.Frag} {mg : Str → Option Value} {a : Cl} {x : Fx} (T : Txt K mg a x) : PySem.W.keepIn K (.ref x.f_Ratio___add__) = true := T.F_Ratio___add__.kp
theorem Txt.kp_Ratio___mul__ {K : PySem.W.Frag} {mg : Str → Option Value} {a : Cl} {x : Fx} (T : Txt K mg a x) : PySem.W.keepIn K (.ref x.f_Ratio___mul__) = true := T.F_Ratio___mul__.kp
theorem Txt.kp_Ratio___neg__ {K : PySem.W.Frag} {mg : Str → Option Value} {a : Cl} {x : Fx} (T : Txt K mg a x) : PySem.W.keepIn K (.ref x.f_Ratio___neg__) = true := T.F_Ratio___neg__.kp
theorem Txt.kp_Ratio___sub__ {K : PySem.W.Frag} {mg : Str → Option Value} {a : Cl} {x : Fx} (T : Txt K mg a x) : PySem.W.keepIn K (.ref x.f_Ratio___sub__) = true := T.F_Ratio___sub__.kp
theorem Txt.kp_compared {K : PySem.W.Frag} {mg : Str → Option Value} {a : Cl} {x : Fx} (T : Txt K mg a x) : PySem.W.keepIn K (.ref x.f_compared) = true := T.F_compared.kp
theorem Txt.kp_Ratio_compared {K : PySem.W.Frag} {mg : Str → Option Value} {a : Cl} {x : Fx} (T : Txt K mg a x) : PySem.W.keepIn K (.ref x.f_Ratio_compared) = true := T.F_Ratio_compared.kp
theorem Txt.kp_Ratio_over {K : PySem.W.Frag} {mg : Str → Option Value} {a : Cl} {x : Fx} (T : Txt K mg a x) : PySem.W.keepIn K (.ref x.f_Ratio_over) = true := T.F_Ratio_over.kp
theorem Txt.kp__law_lowest {K : PySem.W.Frag} {mg : Str → Option Value} {a : Cl} {x : Fx} (T : Txt K mg a x) : PySem.W.keepIn K (.ref x.f__law_lowest) = true := T.F__law_lowest.kp
theorem Txt.kp__law_parts {K : PySem.W.Frag} {mg : Str → Option Value} {a : Cl} {x : Fx} (T : Txt K mg a x) : PySem.W.keepIn K (.ref x.f__law_parts) = true := T.F__law_parts.kp
theorem Txt.kp__law_pair_right {K : PySem.W.Frag} {mg : Str → Option Value} {a : Cl} {x : Fx} (T : Txt K mg a x) : PySem.W.keepIn K (.ref x.f__law_pair_right) = true := T.F__law_pair_right.kp
theorem Txt.kp_Ratio___radd__ {K : PySem.W.Frag} {mg : Str → Option Value} {a : Cl} {x : Fx} (T : Txt K mg a x) : PySem.W.keepIn K (.ref x.f_Ratio___radd__) = true := T.F_Ratio___radd__.kp
theorem Txt.kp_Ratio___rmul__ {K : PySem.W.Frag} {mg : Str → Option Value} {a : Cl} {x : Fx} (T : Txt K mg a x) : PySem.W.keepIn K (.ref x.f_Ratio___rmul__) = true := T.F_Ratio___rmul__.kp
theorem Txt.kp_Ratio___rsub__ {K : PySem.W.Frag} {mg : Str → Option Value} {a : Cl} {x : Fx} (T : Txt K mg a x) : PySem.W.keepIn K (.ref x.f_Ratio___rsub__) = true := T.F_Ratio___rsub__.kp
theorem Txt.kp__law_whole_right {K : PySem.W.Frag} {mg : Str → Option Value} {a : Cl} {x : Fx} (T : Txt K mg a x) : PySem.W.keepIn K (.ref x.f__law_whole_right) = true := T.F__law_whole_right.kp
theorem Txt.kp__law_right {K : PySem.W.Frag} {mg : Str → Option Value} {a : Cl} {x : Fx} (T : Txt K mg a x) : PySem.W.keepIn K (.ref x.f__law_right) = true := T.F__law_right.kp
theorem Txt.kp_law {K : PySem.W.Frag} {mg : Str → Option Value} {a : Cl} {x : Fx} (T : Txt K mg a x) : PySem.W.keepIn K (.ref x.f_law) = true := T.F_law.kp
section
variable {P : Program} {w : World} {K : PySem.W.Frag} {mg : Str → Option Value} {base : Heap} {a : Cl} {x : Fx}
theorem ok_is_integer (T : Txt K mg a x) : FnOk P w K mg base (L2.CX P w) 1 x.f_is_integer x.d_is_integer ["value"] (sp_is_integer K a) := by
  refine T.F_is_integer.okX sc_is_integer (fun vs H Q E h => by first | (obtain ⟨_, rfl, _⟩ := h; rfl) | (obtain ⟨_, _, rfl, _⟩ := h; rfl) | (obtain ⟨_, _, _, rfl, _⟩ := h; rfl) | (obtain ⟨_, _, _, _, rfl, _⟩ := h; rfl) | (obtain ⟨_, _, _, _, _, rfl, _⟩ := h; rfl) | (obtain ⟨_, _, _, _, _, _, rfl, _⟩ := h; rfl) | (obtain ⟨_, _, _, _, _, _, _, rfl, _⟩ := h; rfl)) (fun cdv A outer s H vs Q E hr h => ?_)
  have pE : Passes (L2.CX P w) (cxOf (L2.CX P w) P w K mg base nm_is_integer "is_integer" (defScope st_is_integer) x.f_is_integer cdv A outer s H E) E := passes_call (takes_of rfl rfl rfl rfl) fun _ _ _ _ h => h
  have pO : PassesOwn (model P w) (cxOf (L2.CX P w) P w K mg base nm_is_integer "is_integer" (defScope st_is_integer) x.f_is_integer cdv A outer s H E).A (cxOf (L2.CX P w) P w K mg base nm_is_integer "is_integer" (defScope st_is_integer) x.f_is_integer cdv A outer s H E).env (cxOf (L2.CX P w) P w K mg base nm_is_integer "is_integer" (defScope st_is_integer) x.f_is_integer cdv A outer s H E).xe := passes_of rfl
  exact ⟨rd_is_integer K a E, ((pss_one (ps_ret (pe_and (pe_callB call_isi (by rfl) T.n_isinstance (by decide +kernel) (pa_cons (pv 0) (pa_cons (pe_bltn (v := .ty "int") (by rfl) T.n_int (by decide +kernel) rfl) pa_nil))) (pe_one (pe_not (pe_callB call_isi (by rfl) T.n_isinstance (by decide +kernel) (pa_cons (pv 0) (pa_cons (pe_bltn (v := .ty "bool") (by rfl) T.n_bool (by decide +kernel) rfl) pa_nil))))))))), read_is_integer T.kf h⟩
theorem ok_shared_factor (T : Txt K mg a x) : FnOk P w K mg base (L2.CX P w) 1 x.f_shared_factor x.d_shared_factor ["one", "two"] (sp_shared_factor K a) := by
  refine T.F_shared_factor.okX sc_shared_factor (fun vs H Q E h => by first | (obtain ⟨_, rfl, _⟩ := h; rfl) | (obtain ⟨_, _, rfl, _⟩ := h; rfl) | (obtain ⟨_, _, _, rfl, _⟩ := h; rfl) | (obtain ⟨_, _, _, _, rfl, _⟩ := h; rfl) | (obtain ⟨_, _, _, _, _, rfl, _⟩ := h; rfl) | (obtain ⟨_, _, _, _, _, _, rfl, _⟩ := h; rfl) | (obtain ⟨_, _, _, _, _, _, _, rfl, _⟩ := h; rfl)) (fun cdv A outer s H vs Q E hr h => ?_)
  have pE : Passes (L2.CX P w) (cxOf (L2.CX P w) P w K mg base nm_shared_factor "shared_factor" (defScope st_shared_factor) x.f_shared_factor cdv A outer s H E) E := passes_call (takes_of rfl rfl rfl rfl) fun _ _ _ _ h => h
  have pO : PassesOwn (model P w) (cxOf (L2.CX P w) P w K mg base nm_shared_factor "shared_factor" (defScope st_shared_factor) x.f_shared_factor cdv A outer s H E).A (cxOf (L2.CX P w) P w K mg base nm_shared_factor "shared_factor" (defScope st_shared_factor) x.f_shared_factor cdv A outer s H E).env (cxOf (L2.CX P w) P w K mg base nm_shared_factor "shared_factor" (defScope st_shared_factor) x.f_shared_factor cdv A outer s H E).xe := passes_of rfl
  exact ⟨rd_shared_factor K a E, ((pss_cons (ps_par (i := 2) (j := 3) rfl sc_shared_factor.nd rfl rfl (by decide) rfl rfl (pa_cons (pe_callB call_absX (by rfl) T.n_abs (by decide +kernel) (pa_cons (pv 0) pa_nil)) (pa_cons (pe_callB call_absX (by rfl) T.n_abs (by decide +kernel) (pa_cons (pv 1) pa_nil)) pa_nil)) (by rfl))
  (pss_cons (ps_while pO (pt_cmpR op_gt (pv 3) pe_int (nomark _)) (pss_one (ps_par (i := 2) (j := 3) rfl sc_shared_factor.nd rfl rfl (by decide) rfl rfl (pa_cons (pv 3) (pa_cons (pe_op op_modN (pv 2) (pv 3)) pa_nil)) (by rfl))))
  (pss_one (ps_ret (pv 2)))))), read_shared_factor  h⟩
theorem ok_Ratio___init__ (T : Txt K mg a x) : FnOk P w K mg base (L2.CX P w) 3 x.f_Ratio___init__ x.d_Ratio___init__ ["self", "top", "bottom"] (sp_Ratio___init__ K a) := by
  refine FunD.ok (CX := L2.CX P w) T.F_Ratio___init__ sc_Ratio___init__ (fun vs H Q E h => by first | (obtain ⟨_, rfl, _⟩ := h; rfl) | (obtain ⟨_, _, rfl, _⟩ := h; rfl) | (obtain ⟨_, _, _, rfl, _⟩ := h; rfl) | (obtain ⟨_, _, _, _, rfl, _⟩ := h; rfl) | (obtain ⟨_, _, _, _, _, rfl, _⟩ := h; rfl) | (obtain ⟨_, _, _, _, _, _, rfl, _⟩ := h; rfl) | (obtain ⟨_, _, _, _, _, _, _, rfl, _⟩ := h; rfl)) (fun cdv A outer s H vs Q E hr h => ?_)
  have pE : Passes (L2.CX P w) (cxOf (L2.CX P w) P w K mg base nm_Ratio___init__ "Ratio.__init__" (defScope st_Ratio___init__) x.f_Ratio___init__ cdv A outer s H E) E := passes_call (takes_of rfl rfl rfl rfl) fun _ _ _ _ h => h
  have pO : PassesOwn (model P w) (cxOf (L2.CX P w) P w K mg base nm_Ratio___init__ "Ratio.__init__" (defScope st_Ratio___init__) x.f_Ratio___init__ cdv A outer s H E).A (cxOf (L2.CX P w) P w K mg base nm_Ratio___init__ "Ratio.__init__" (defScope st_Ratio___init__) x.f_Ratio___init__ cdv A outer s H E).env (cxOf (L2.CX P w) P w K mg base nm_Ratio___init__ "Ratio.__init__" (defScope st_Ratio___init__) x.f_Ratio___init__ cdv A outer s H E).xe := passes_of rfl
  exact ⟨rd_Ratio___init__ K a E, ((pss_cons (ps_if (pt_not (pt_val (pe_call (ok_is_integer T) (hr.mono (by decide)) rfl T.g_is_integer T.kp_is_integer T.b_is_integer .nil pE (pa_cons (pv 1) pa_nil)))) (pss_one ps_never) pss_nil)
  (pss_cons (ps_if (PW.pt (pw_or (pt_not (pt_val (pe_call (ok_is_integer T) (hr.mono (by decide)) rfl T.g_is_integer T.kp_is_integer T.b_is_integer .nil pE (pa_cons (pv 2) pa_nil)))) (pw_or1 (pt_cmpR op_lt (pv 2) pe_int (nomark _))))) (pss_one ps_never) pss_nil)
  (pss_cons (ps_set (i := 3) sc_Ratio___init__.nd rfl (by first | exact Or.inl rfl | exact Or.inr rfl) (pe_call (ok_shared_factor T) (hr.mono (by decide)) rfl T.g_shared_factor T.kp_shared_factor T.b_shared_factor .nil pE (pa_cons (pv 1) (pa_cons (pv 2) pa_nil))))
  (pss_cons (ps_fldC T.cl_Ratio T.na_Ratio_top (pv 0) (pe_op op_fdivX (pv 1) (pv 3)))
  (pss_one (ps_fldC T.cl_Ratio T.na_Ratio_bottom (pv 0) (pe_op op_fdivX (pv 2) (pv 3))))))))), read_Ratio___init__ T.kf h⟩
theorem ok_as_ratio (T : Txt K mg a x) : FnOk P w K mg base (L2.CX P w) 5 x.f_as_ratio x.d_as_ratio ["value"] (sp_as_ratio K a) := by
  refine T.F_as_ratio.okX sc_as_ratio (fun vs H Q E h => by first | (obtain ⟨_, rfl, _⟩ := h; rfl) | (obtain ⟨_, _, rfl, _⟩ := h; rfl) | (obtain ⟨_, _, _, rfl, _⟩ := h; rfl) | (obtain ⟨_, _, _, _, rfl, _⟩ := h; rfl) | (obtain ⟨_, _, _, _, _, rfl, _⟩ := h; rfl) | (obtain ⟨_, _, _, _, _, _, rfl, _⟩ := h; rfl) | (obtain ⟨_, _, _, _, _, _, _, rfl, _⟩ := h; rfl)) (fun cdv A outer s H vs Q E hr h => ?_)
  have pE : Passes (L2.CX P w) (cxOf (L2.CX P w) P w K mg base nm_as_ratio "as_ratio" (defScope st_as_ratio) x.f_as_ratio cdv A outer s H E) E := passes_call (takes_of rfl rfl rfl rfl) fun _ _ _ _ h => h
  have pO : PassesOwn (model P w) (cxOf (L2.CX P w) P w K mg base nm_as_ratio "as_ratio" (defScope st_as_ratio) x.f_as_ratio cdv A outer s H E).A (cxOf (L2.CX P w) P w K mg base nm_as_ratio "as_ratio" (defScope st_as_ratio) x.f_as_ratio cdv A outer s H E).env (cxOf (L2.CX P w) P w K mg base nm_as_ratio "as_ratio" (defScope st_as_ratio) x.f_as_ratio cdv A outer s H E).xe := passes_of rfl
  exact ⟨rd_as_ratio K a E, ((pss_one (ps_ret (pe_ifExp (pt_val (pe_callB call_isi (by rfl) T.n_isinstance (by decide +kernel) (pa_cons (pv 0) (pa_cons (pe_glob (v := .ref a.C_Ratio) rfl T.g_Ratio rfl) pa_nil)))) (pv 0) (pe_make T.mk_Ratio (ok_Ratio___init__ T) (hr.mono (by decide)) rfl T.g_Ratio (T.bd_Ratio___init___1).choose_spec.2 (T.bd_Ratio___init___1).choose_spec.1 pE (pa_cons (pv 0) pa_nil)))))), read_as_ratio T.kf T.in_Ratio h⟩
theorem ok_is_fraction (T : Txt K mg a x) : FnOk P w K mg base (L2.CX P w) 3 x.f_is_fraction x.d_is_fraction ["value"] (sp_is_fraction K a) := by
  refine T.F_is_fraction.okX sc_is_fraction (fun vs H Q E h => by first | (obtain ⟨_, rfl, _⟩ := h; rfl) | (obtain ⟨_, _, rfl, _⟩ := h; rfl) | (obtain ⟨_, _, _, rfl, _⟩ := h; rfl) | (obtain ⟨_, _, _, _, rfl, _⟩ := h; rfl) | (obtain ⟨_, _, _, _, _, rfl, _⟩ := h; rfl) | (obtain ⟨_, _, _, _, _, _, rfl, _⟩ := h; rfl) | (obtain ⟨_, _, _, _, _, _, _, rfl, _⟩ := h; rfl)) (fun cdv A outer s H vs Q E hr h => ?_)
  have pE : Passes (L2.CX P w) (cxOf (L2.CX P w) P w K mg base nm_is_fraction "is_fraction" (defScope st_is_fraction) x.f_is_fraction cdv A outer s H E) E := passes_call (takes_of rfl rfl rfl rfl) fun _ _ _ _ h => h
  have pO : PassesOwn (model P w) (cxOf (L2.CX P w) P w K mg base nm_is_fraction "is_fraction" (defScope st_is_fraction) x.f_is_fraction cdv A outer s H E).A (cxOf (L2.CX P w) P w K mg base nm_is_fraction "is_fraction" (defScope st_is_fraction) x.f_is_fraction cdv A outer s H E).env (cxOf (L2.CX P w) P w K mg base nm_is_fraction "is_fraction" (defScope st_is_fraction) x.f_is_fraction cdv A outer s H E).xe := passes_of rfl
  exact ⟨rd_is_fraction K a E, ((pss_one (ps_ret (pe_or (pe_call (ok_is_integer T) (hr.mono (by decide)) rfl T.g_is_integer T.kp_is_integer T.b_is_integer .nil pE (pa_cons (pv 0) pa_nil)) (pe_one (pe_callB call_isi (by rfl) T.n_isinstance (by decide +kernel) (pa_cons (pv 0) (pa_cons (pe_glob (v := .ref a.C_Ratio) rfl T.g_Ratio rfl) pa_nil)))))))), read_is_fraction T.kf T.in_Ratio h⟩
theorem ok_Ratio___eq__ (T : Txt K mg a x) : FnOk P w K mg base (L2.CX P w) 7 x.f_Ratio___eq__ x.d_Ratio___eq__ ["self", "other"] (sp_Ratio___eq__ K a) := by
  refine T.F_Ratio___eq__.okX sc_Ratio___eq__ (fun vs H Q E h => by first | (obtain ⟨_, rfl, _⟩ := h; rfl) | (obtain ⟨_, _, rfl, _⟩ := h; rfl) | (obtain ⟨_, _, _, rfl, _⟩ := h; rfl) | (obtain ⟨_, _, _, _, rfl, _⟩ := h; rfl) | (obtain ⟨_, _, _, _, _, rfl, _⟩ := h; rfl) | (obtain ⟨_, _, _, _, _, _, rfl, _⟩ := h; rfl) | (obtain ⟨_, _, _, _, _, _, _, rfl, _⟩ := h; rfl)) (fun cdv A outer s H vs Q E hr h => ?_)
  have pE : Passes (L2.CX P w) (cxOf (L2.CX P w) P w K mg base nm_Ratio___eq__ "Ratio.__eq__" (defScope st_Ratio___eq__) x.f_Ratio___eq__ cdv A outer s H E) E := passes_call (takes_of rfl rfl rfl rfl) fun _ _ _ _ h => h
  have pO : PassesOwn (model P w) (cxOf (L2.CX P w) P w K mg base nm_Ratio___eq__ "Ratio.__eq__" (defScope st_Ratio___eq__) x.f_Ratio___eq__ cdv A outer s H E).A (cxOf (L2.CX P w) P w K mg base nm_Ratio___eq__ "Ratio.__eq__" (defScope st_Ratio___eq__) x.f_Ratio___eq__ cdv A outer s H E).env (cxOf (L2.CX P w) P w K mg base nm_Ratio___eq__ "Ratio.__eq__" (defScope st_Ratio___eq__) x.f_Ratio___eq__ cdv A outer s H E).xe := passes_of rfl
  exact ⟨rd_Ratio___eq__ K a E, ((pss_cons (ps_if (pt_not (pt_val (pe_call (ok_is_fraction T) (hr.mono (by decide)) rfl T.g_is_fraction T.kp_is_fraction T.b_is_fraction .nil pE (pa_cons (pv 1) pa_nil)))) (pss_one (ps_ret pe_bl)) pss_nil)
  (pss_cons (ps_set (i := 2) sc_Ratio___eq__.nd rfl (by first | exact Or.inl rfl | exact Or.inr rfl) (pe_call (ok_as_ratio T) (hr.mono (by decide)) rfl T.g_as_ratio T.kp_as_ratio T.b_as_ratio .nil pE (pa_cons (pv 1) pa_nil)))
  (pss_one (ps_ret (pe_and (pe_cmpR op_eq (pe_fldC T.cl_Ratio T.na_Ratio_top (pv 0)) (pe_fldC T.cl_Ratio T.na_Ratio_top (pv 2)) (nomark _)) (pe_one (pe_cmpR op_eq (pe_fldC T.cl_Ratio T.na_Ratio_bottom (pv 0)) (pe_fldC T.cl_Ratio T.na_Ratio_bottom (pv 2)) (nomark _))))))))), read_Ratio___eq__ T.in_Ratio h⟩
theorem ok__law_bag (T : Txt K mg a x) : FnOk P w K mg base (L2.CX P w) 1 x.f__law_bag x.d__law_bag ["_law_cells", "_law_k"] (sp__law_bag K a) := by
  refine T.F__law_bag.okX sc__law_bag (fun vs H Q E h => by first | (obtain ⟨_, rfl, _⟩ := h; rfl) | (obtain ⟨_, _, rfl, _⟩ := h; rfl) | (obtain ⟨_, _, _, rfl, _⟩ := h; rfl) | (obtain ⟨_, _, _, _, rfl, _⟩ := h; rfl) | (obtain ⟨_, _, _, _, _, rfl, _⟩ := h; rfl) | (obtain ⟨_, _, _, _, _, _, rfl, _⟩ := h; rfl) | (obtain ⟨_, _, _, _, _, _, _, rfl, _⟩ := h; rfl)) (fun cdv A outer s H vs Q E hr h => ?_)
  have pE : Passes (L2.CX P w) (cxOf (L2.CX P w) P w K mg base nm__law_bag "_law_bag" (defScope st__law_bag) x.f__law_bag cdv A outer s H E) E := passes_call (takes_of rfl rfl rfl rfl) fun _ _ _ _ h => h
  have pO : PassesOwn (model P w) (cxOf (L2.CX P w) P w K mg base nm__law_bag "_law_bag" (defScope st__law_bag) x.f__law_bag cdv A outer s H E).A (cxOf (L2.CX P w) P w K mg base nm__law_bag "_law_bag" (defScope st__law_bag) x.f__law_bag cdv A outer s H E).env (cxOf (L2.CX P w) P w K mg base nm__law_bag "_law_bag" (defScope st__law_bag) x.f__law_bag cdv A outer s H E).xe := passes_of rfl
  exact ⟨rd__law_bag K a E, ((pss_cons (ps_par (i := 2) (j := 3) rfl sc__law_bag.nd rfl rfl (by decide) rfl rfl (pa_cons (pe_ifExp (pt_cmpR op_lt (pv 1) (pe_callB call_lenX (by rfl) T.n_len (by decide +kernel) (pa_cons (pv 0) pa_nil)) (nomark _)) (pe_callTy call_int1X (by rfl) T.n_int (by decide +kernel) (pa_cons (pe_ix ix_list (pv 0) (pv 1) (fun _ _ => rfl)) pa_nil)) pe_int) (pa_cons (pe_op op_mulM pe_int (pe_op op_add (pv 1) pe_int)) pa_nil)) (by rfl))
  (pss_cons (ps_for pO rfl (pi_list (pe_slice sl_list (pv 0) po_none (po_some pe_int))) (pg_name (i := 4) sc__law_bag.nd rfl (by first | exact Or.inl rfl | exact Or.inr rfl)) (pss_one (ps_set (i := 3) sc__law_bag.nd rfl (by first | exact Or.inl rfl | exact Or.inr rfl) (pe_op op_modN (pe_callTy call_int1X (by rfl) T.n_int (by decide +kernel) (pa_cons (pe_op op_add (pe_op op_add (pe_op op_mulM (pv 3) pe_int) (pe_op op_modN (pe_callTy call_int1X (by rfl) T.n_int (by decide +kernel) (pa_cons (pv 4) pa_nil)) pe_int)) (pe_op op_mulM pe_int (pv 1))) pa_nil)) pe_int))))
  (pss_cons (ps_set (i := 5) sc__law_bag.nd rfl (by first | exact Or.inl rfl | exact Or.inr rfl) (pe_ifExp (PW.pt (pw_or (pt_cmpR op_lt (pv 2) pe_int (nomark _)) (pw_or1 (pt_cmpR op_ge (pv 2) (pe_op op_pow pe_int pe_int) (nomark _))))) (pe_callB call_absX (by rfl) T.n_abs (by decide +kernel) (pa_cons (pv 2) pa_nil)) pe_int))
  (pss_one (ps_ret (pe_lst (pa_cons (pv 5) (pa_cons (pe_op op_modN (pe_callTy call_int1X (by rfl) T.n_int (by decide +kernel) (pa_cons (pe_op op_add (pv 3) (pe_op op_mulM pe_int (pe_op op_modN (pe_callTy call_int1X (by rfl) T.n_int (by decide +kernel) (pa_cons (pv 2) pa_nil)) pe_int))) pa_nil)) pe_int) (pa_cons pe_int pa_nil)))))))))), read__law_bag  h⟩
theorem ok__law_draw (T : Txt K mg a x) : FnOk P w K mg base (L2.CX P w) 1 x.f__law_draw x.d__law_draw ["_law_bag_here", "_law_wide"] (sp__law_draw K a) := by
  refine T.F__law_draw.okX sc__law_draw (fun vs H Q E h => by first | (obtain ⟨_, rfl, _⟩ := h; rfl) | (obtain ⟨_, _, rfl, _⟩ := h; rfl) | (obtain ⟨_, _, _, rfl, _⟩ := h; rfl) | (obtain ⟨_, _, _, _, rfl, _⟩ := h; rfl) | (obtain ⟨_, _, _, _, _, rfl, _⟩ := h; rfl) | (obtain ⟨_, _, _, _, _, _, rfl, _⟩ := h; rfl) | (obtain ⟨_, _, _, _, _, _, _, rfl, _⟩ := h; rfl)) (fun cdv A outer s H vs Q E hr h => ?_)
  have pE : Passes (L2.CX P w) (cxOf (L2.CX P w) P w K mg base nm__law_draw "_law_draw" (defScope st__law_draw) x.f__law_draw cdv A outer s H E) E := passes_call (takes_of rfl rfl rfl rfl) fun _ _ _ _ h => h
  have pO : PassesOwn (model P w) (cxOf (L2.CX P w) P w K mg base nm__law_draw "_law_draw" (defScope st__law_draw) x.f__law_draw cdv A outer s H E).A (cxOf (L2.CX P w) P w K mg base nm__law_draw "_law_draw" (defScope st__law_draw) x.f__law_draw cdv A outer s H E).env (cxOf (L2.CX P w) P w K mg base nm__law_draw "_law_draw" (defScope st__law_draw) x.f__law_draw cdv A outer s H E).xe := passes_of rfl
  exact ⟨rd__law_draw K a E, ((pss_cons (ps_asg (pe_op op_add (pe_ix ix_list (pv 0) pe_int (fun _ _ => rfl)) pe_int) (pg_sub (pv 0) pe_int set_list))
  (pss_cons (ps_if (pt_cmpR op_gt (pe_ix ix_list (pv 0) pe_int (fun _ _ => rfl)) pe_int (nomark _)) (pss_cons (ps_set (i := 2) sc__law_draw.nd rfl (by first | exact Or.inl rfl | exact Or.inr rfl) (pe_op op_modN (pe_callTy call_int1X (by rfl) T.n_int (by decide +kernel) (pa_cons (pe_ix ix_list (pv 0) pe_int (fun _ _ => rfl)) pa_nil)) (pv 1)))
  (pss_cons (ps_asg (pe_op op_fdivX (pe_ix ix_list (pv 0) pe_int (fun _ _ => rfl)) (pv 1)) (pg_sub (pv 0) pe_int set_list))
  (pss_one (ps_ret (pv 2))))) pss_nil)
  (pss_cons (ps_set (i := 3) sc__law_draw.nd rfl (by first | exact Or.inl rfl | exact Or.inr rfl) (pe_op op_add (pe_callTy call_int1X (by rfl) T.n_int (by decide +kernel) (pa_cons (pe_ix ix_list (pv 0) pe_int (fun _ _ => rfl)) pa_nil)) (pe_op op_mulM pe_int (pe_ix ix_list (pv 0) pe_int (fun _ _ => rfl)))))
  (pss_cons (ps_set (i := 4) sc__law_draw.nd rfl (by first | exact Or.inl rfl | exact Or.inr rfl) (pe_op op_add (pe_op op_modN (pe_callTy call_int1X (by rfl) T.n_int (by decide +kernel) (pa_cons (pv 3) pa_nil)) pe_int) pe_int))
  (pss_cons (ps_asg (pe_op op_modN (pe_callTy call_int1X (by rfl) T.n_int (by decide +kernel) (pa_cons (pe_op op_add (pe_op op_add (pe_op op_mulM (pv 3) (pv 4)) (pe_op op_mulM pe_int (pe_ix ix_list (pv 0) pe_int (fun _ _ => rfl)))) pe_int) pa_nil)) pe_int) (pg_sub (pv 0) pe_int set_list))
  (pss_one (ps_ret (pe_op op_modN (pe_op op_fdivX (pe_callTy call_int1X (by rfl) T.n_int (by decide +kernel) (pa_cons (pe_ix ix_list (pv 0) pe_int (fun _ _ => rfl)) pa_nil)) pe_int) (pv 1)))))))))), read__law_draw  h⟩
theorem ok__law_one (T : Txt K mg a x) : FnOk P w K mg base (L2.CX P w) 3 x.f__law_one x.d__law_one ["_law_bag_here", "_law_some"] (sp__law_one K a) := by
  refine T.F__law_one.okX sc__law_one (fun vs H Q E h => by first | (obtain ⟨_, rfl, _⟩ := h; rfl) | (obtain ⟨_, _, rfl, _⟩ := h; rfl) | (obtain ⟨_, _, _, rfl, _⟩ := h; rfl) | (obtain ⟨_, _, _, _, rfl, _⟩ := h; rfl) | (obtain ⟨_, _, _, _, _, rfl, _⟩ := h; rfl) | (obtain ⟨_, _, _, _, _, _, rfl, _⟩ := h; rfl) | (obtain ⟨_, _, _, _, _, _, _, rfl, _⟩ := h; rfl)) (fun cdv A outer s H vs Q E hr h => ?_)
  have pE : Passes (L2.CX P w) (cxOf (L2.CX P w) P w K mg base nm__law_one "_law_one" (defScope st__law_one) x.f__law_one cdv A outer s H E) E := passes_call (takes_of rfl rfl rfl rfl) fun _ _ _ _ h => h
  have pO : PassesOwn (model P w) (cxOf (L2.CX P w) P w K mg base nm__law_one "_law_one" (defScope st__law_one) x.f__law_one cdv A outer s H E).A (cxOf (L2.CX P w) P w K mg base nm__law_one "_law_one" (defScope st__law_one) x.f__law_one cdv A outer s H E).env (cxOf (L2.CX P w) P w K mg base nm__law_one "_law_one" (defScope st__law_one) x.f__law_one cdv A outer s H E).xe := passes_of rfl
  exact ⟨rd__law_one K a E, ((pss_one (ps_ret (pe_ix ix_seq (pv 1) (pe_call (ok__law_draw T) (hr.mono (by decide)) rfl T.g__law_draw T.kp__law_draw T.b__law_draw .nil pE (pa_cons (pv 0) (pa_cons (pe_callB call_lenX (by rfl) T.n_len (by decide +kernel) (pa_cons (pv 1) pa_nil)) pa_nil))) (fun _ _ => rfl))))), read__law_one  h⟩
theorem ok__law_pair (T : Txt K mg a x) : FnOk P w K mg base (L2.CX P w) 5 x.f__law_pair x.d__law_pair ["_law_bag_here"] (sp__law_pair K a) := by
  refine T.F__law_pair.okX sc__law_pair (fun vs H Q E h => by first | (obtain ⟨_, rfl, _⟩ := h; rfl) | (obtain ⟨_, _, rfl, _⟩ := h; rfl) | (obtain ⟨_, _, _, rfl, _⟩ := h; rfl) | (obtain ⟨_, _, _, _, rfl, _⟩ := h; rfl) | (obtain ⟨_, _, _, _, _, rfl, _⟩ := h; rfl) | (obtain ⟨_, _, _, _, _, _, rfl, _⟩ := h; rfl) | (obtain ⟨_, _, _, _, _, _, _, rfl, _⟩ := h; rfl)) (fun cdv A outer s H vs Q E hr h => ?_)
  have pE : Passes (L2.CX P w) (cxOf (L2.CX P w) P w K mg base nm__law_pair "_law_pair" (defScope st__law_pair) x.f__law_pair cdv A outer s H E) E := passes_call (takes_of rfl rfl rfl rfl) fun _ _ _ _ h => h
  have pO : PassesOwn (model P w) (cxOf (L2.CX P w) P w K mg base nm__law_pair "_law_pair" (defScope st__law_pair) x.f__law_pair cdv A outer s H E).A (cxOf (L2.CX P w) P w K mg base nm__law_pair "_law_pair" (defScope st__law_pair) x.f__law_pair cdv A outer s H E).env (cxOf (L2.CX P w) P w K mg base nm__law_pair "_law_pair" (defScope st__law_pair) x.f__law_pair cdv A outer s H E).xe := passes_of rfl
  exact ⟨rd__law_pair K a E, ((pss_cons (ps_set (i := 1) sc__law_pair.nd rfl (by first | exact Or.inl rfl | exact Or.inr rfl) (pe_call (ok__law_one T) (hr.mono (by decide)) rfl T.g__law_one T.kp__law_one T.b__law_one .nil pE (pa_cons (pv 0) (pa_cons (pe_lst (pa_cons pe_int (pa_cons pe_int (pa_cons (pe_call (ok__law_draw T) (hr.mono (by decide)) rfl T.g__law_draw T.kp__law_draw T.b__law_draw .nil pE (pa_cons (pv 0) (pa_cons pe_int pa_nil))) (pa_cons (pe_call (ok__law_draw T) (hr.mono (by decide)) rfl T.g__law_draw T.kp__law_draw T.b__law_draw .nil pE (pa_cons (pv 0) (pa_cons (pe_op op_pow pe_int pe_int) pa_nil))) pa_nil))))) pa_nil))))
  (pss_one (ps_ret (pe_tup (pa_cons (pe_op op_mulM (pv 1) (pe_call (ok__law_one T) (hr.mono (by decide)) rfl T.g__law_one T.kp__law_one T.b__law_one .nil pE (pa_cons (pv 0) (pa_cons (pe_lst (pa_cons pe_int (pa_cons pe_int (pa_cons (pe_op op_sub pe_int pe_int) pa_nil)))) pa_nil)))) (pa_cons (pe_call (ok__law_one T) (hr.mono (by decide)) rfl T.g__law_one T.kp__law_one T.b__law_one .nil pE (pa_cons (pv 0) (pa_cons (pe_lst (pa_cons pe_int (pa_cons pe_int (pa_cons pe_int (pa_cons pe_int (pa_cons pe_int (pa_cons pe_int (pa_cons (pe_op op_add pe_int (pe_call (ok__law_draw T) (hr.mono (by decide)) rfl T.g__law_draw T.kp__law_draw T.b__law_draw .nil pE (pa_cons (pv 0) (pa_cons pe_int pa_nil)))) pa_nil)))))))) pa_nil))) pa_nil))))))), read__law_pair  h⟩
theorem ok_Ratio___add__ (T : Txt K mg a x) : FnOk P w K mg base (L2.CX P w) 7 x.f_Ratio___add__ x.d_Ratio___add__ ["self", "other"] (sp_Ratio___add__ K a) := by
  refine T.F_Ratio___add__.okX sc_Ratio___add__ (fun vs H Q E h => by first | (obtain ⟨_, rfl, _⟩ := h; rfl) | (obtain ⟨_, _, rfl, _⟩ := h; rfl) | (obtain ⟨_, _, _, rfl, _⟩ := h; rfl) | (obtain ⟨_, _, _, _, rfl, _⟩ := h; rfl) | (obtain ⟨_, _, _, _, _, rfl, _⟩ := h; rfl) | (obtain ⟨_, _, _, _, _, _, rfl, _⟩ := h; rfl) | (obtain ⟨_, _, _, _, _, _, _, rfl, _⟩ := h; rfl)) (fun cdv A outer s H vs Q E hr h => ?_)
  have pE : Passes (L2.CX P w) (cxOf (L2.CX P w) P w K mg base nm_Ratio___add__ "Ratio.__add__" (defScope st_Ratio___add__) x.f_Ratio___add__ cdv A outer s H E) E := passes_call (takes_of rfl rfl rfl rfl) fun _ _ _ _ h => h
  have pO : PassesOwn (model P w) (cxOf (L2.CX P w) P w K mg base nm_Ratio___add__ "Ratio.__add__" (defScope st_Ratio___add__) x.f_Ratio___add__ cdv A outer s H E).A (cxOf (L2.CX P w) P w K mg base nm_Ratio___add__ "Ratio.__add__" (defScope st_Ratio___add__) x.f_Ratio___add__ cdv A outer s H E).env (cxOf (L2.CX P w) P w K mg base nm_Ratio___add__ "Ratio.__add__" (defScope st_Ratio___add__) x.f_Ratio___add__ cdv A outer s H E).xe := passes_of rfl
  exact ⟨rd_Ratio___add__ K a E, ((pss_cons (ps_if (pt_not (pt_val (pe_call (ok_is_fraction T) (hr.mono (by decide)) rfl T.g_is_fraction T.kp_is_fraction T.b_is_fraction .nil pE (pa_cons (pv 1) pa_nil)))) (pss_one ps_never) pss_nil)
  (pss_cons (ps_set (i := 2) sc_Ratio___add__.nd rfl (by first | exact Or.inl rfl | exact Or.inr rfl) (pe_call (ok_as_ratio T) (hr.mono (by decide)) rfl T.g_as_ratio T.kp_as_ratio T.b_as_ratio .nil pE (pa_cons (pv 1) pa_nil)))
  (pss_one (ps_ret (pe_make T.mk_Ratio (ok_Ratio___init__ T) (hr.mono (by decide)) rfl T.g_Ratio T.b_Ratio___init__ .nil pE (pa_cons (pe_op op_add (pe_op op_mulM (pe_fldC T.cl_Ratio T.na_Ratio_top (pv 0)) (pe_fldC T.cl_Ratio T.na_Ratio_bottom (pv 2))) (pe_op op_mulM (pe_fldC T.cl_Ratio T.na_Ratio_top (pv 2)) (pe_fldC T.cl_Ratio T.na_Ratio_bottom (pv 0)))) (pa_cons (pe_op op_mulM (pe_fldC T.cl_Ratio T.na_Ratio_bottom (pv 0)) (pe_fldC T.cl_Ratio T.na_Ratio_bottom (pv 2))) pa_nil)))))))), read_Ratio___add__ T.in_Ratio h⟩
theorem ok_Ratio___mul__ (T : Txt K mg a x) : FnOk P w K mg base (L2.CX P w) 7 x.f_Ratio___mul__ x.d_Ratio___mul__ ["self", "other"] (sp_Ratio___mul__ K a) := by
  refine T.F_Ratio___mul__.okX sc_Ratio___mul__ (fun vs H Q E h => by first | (obtain ⟨_, rfl, _⟩ := h; rfl) | (obtain ⟨_, _, rfl, _⟩ := h; rfl) | (obtain ⟨_, _, _, rfl, _⟩ := h; rfl) | (obtain ⟨_, _, _, _, rfl, _⟩ := h; rfl) | (obtain ⟨_, _, _, _, _, rfl, _⟩ := h; rfl) | (obtain ⟨_, _, _, _, _, _, rfl, _⟩ := h; rfl) | (obtain ⟨_, _, _, _, _, _, _, rfl, _⟩ := h; rfl)) (fun cdv A outer s H vs Q E hr h => ?_)
  have pE : Passes (L2.CX P w) (cxOf (L2.CX P w) P w K mg base nm_Ratio___mul__ "Ratio.__mul__" (defScope st_Ratio___mul__) x.f_Ratio___mul__ cdv A outer s H E) E := passes_call (takes_of rfl rfl rfl rfl) fun _ _ _ _ h => h
  have pO : PassesOwn (model P w) (cxOf (L2.CX P w) P w K mg base nm_Ratio___mul__ "Ratio.__mul__" (defScope st_Ratio___mul__) x.f_Ratio___mul__ cdv A outer s H E).A (cxOf (L2.CX P w) P w K mg base nm_Ratio___mul__ "Ratio.__mul__" (defScope st_Ratio___mul__) x.f_Ratio___mul__ cdv A outer s H E).env (cxOf (L2.CX P w) P w K mg base nm_Ratio___mul__ "Ratio.__mul__" (defScope st_Ratio___mul__) x.f_Ratio___mul__ cdv A outer s H E).xe := passes_of rfl
  exact ⟨rd_Ratio___mul__ K a E, ((pss_cons (ps_if (pt_not (pt_val (pe_call (ok_is_fraction T) (hr.mono (by decide)) rfl T.g_is_fraction T.kp_is_fraction T.b_is_fraction .nil pE (pa_cons (pv 1) pa_nil)))) (pss_one ps_never) pss_nil)
  (pss_cons (ps_set (i := 2) sc_Ratio___mul__.nd rfl (by first | exact Or.inl rfl | exact Or.inr rfl) (pe_call (ok_as_ratio T) (hr.mono (by decide)) rfl T.g_as_ratio T.kp_as_ratio T.b_as_ratio .nil pE (pa_cons (pv 1) pa_nil)))
  (pss_one (ps_ret (pe_make T.mk_Ratio (ok_Ratio___init__ T) (hr.mono (by decide)) rfl T.g_Ratio T.b_Ratio___init__ .nil pE (pa_cons (pe_op op_mulM (pe_fldC T.cl_Ratio T.na_Ratio_top (pv 0)) (pe_fldC T.cl_Ratio T.na_Ratio_top (pv 2))) (pa_cons (pe_op op_mulM (pe_fldC T.cl_Ratio T.na_Ratio_bottom (pv 0)) (pe_fldC T.cl_Ratio T.na_Ratio_bottom (pv 2))) pa_nil)))))))), read_Ratio___mul__ T.in_Ratio h⟩
theorem ok_Ratio___neg__ (T : Txt K mg a x) : FnOk P w K mg base (L2.CX P w) 5 x.f_Ratio___neg__ x.d_Ratio___neg__ ["self"] (sp_Ratio___neg__ K a) := by
  refine T.F_Ratio___neg__.okX sc_Ratio___neg__ (fun vs H Q E h => by first | (obtain ⟨_, rfl, _⟩ := h; rfl) | (obtain ⟨_, _, rfl, _⟩ := h; rfl) | (obtain ⟨_, _, _, rfl, _⟩ := h; rfl) | (obtain ⟨_, _, _, _, rfl, _⟩ := h; rfl) | (obtain ⟨_, _, _, _, _, rfl, _⟩ := h; rfl) | (obtain ⟨_, _, _, _, _, _, rfl, _⟩ := h; rfl) | (obtain ⟨_, _, _, _, _, _, _, rfl, _⟩ := h; rfl)) (fun cdv A outer s H vs Q E hr h => ?_)
  have pE : Passes (L2.CX P w) (cxOf (L2.CX P w) P w K mg base nm_Ratio___neg__ "Ratio.__neg__" (defScope st_Ratio___neg__) x.f_Ratio___neg__ cdv A outer s H E) E := passes_call (takes_of rfl rfl rfl rfl) fun _ _ _ _ h => h
  have pO : PassesOwn (model P w) (cxOf (L2.CX P w) P w K mg base nm_Ratio___neg__ "Ratio.__neg__" (defScope st_Ratio___neg__) x.f_Ratio___neg__ cdv A outer s H E).A (cxOf (L2.CX P w) P w K mg base nm_Ratio___neg__ "Ratio.__neg__" (defScope st_Ratio___neg__) x.f_Ratio___neg__ cdv A outer s H E).env (cxOf (L2.CX P w) P w K mg base nm_Ratio___neg__ "Ratio.__neg__" (defScope st_Ratio___neg__) x.f_Ratio___neg__ cdv A outer s H E).xe := passes_of rfl
  exact ⟨rd_Ratio___neg__ K a E, ((pss_one (ps_ret (pe_make T.mk_Ratio (ok_Ratio___init__ T) (hr.mono (by decide)) rfl T.g_Ratio T.b_Ratio___init__ .nil pE (pa_cons (pe_un un_neg (pe_fldC T.cl_Ratio T.na_Ratio_top (pv 0))) (pa_cons (pe_fldC T.cl_Ratio T.na_Ratio_bottom (pv 0)) pa_nil)))))), read_Ratio___neg__  h⟩
theorem ok_Ratio___sub__ (T : Txt K mg a x) : FnOk P w K mg base (L2.CX P w) 7 x.f_Ratio___sub__ x.d_Ratio___sub__ ["self", "other"] (sp_Ratio___sub__ K a) := by
  refine T.F_Ratio___sub__.okX sc_Ratio___sub__ (fun vs H Q E h => by first | (obtain ⟨_, rfl, _⟩ := h; rfl) | (obtain ⟨_, _, rfl, _⟩ := h; rfl) | (obtain ⟨_, _, _, rfl, _⟩ := h; rfl) | (obtain ⟨_, _, _, _, rfl, _⟩ := h; rfl) | (obtain ⟨_, _, _, _, _, rfl, _⟩ := h; rfl) | (obtain ⟨_, _, _, _, _, _, rfl, _⟩ := h; rfl) | (obtain ⟨_, _, _, _, _, _, _, rfl, _⟩ := h; rfl)) (fun cdv A outer s H vs Q E hr h => ?_)
  have pE : Passes (L2.CX P w) (cxOf (L2.CX P w) P w K mg base nm_Ratio___sub__ "Ratio.__sub__" (defScope st_Ratio___sub__) x.f_Ratio___sub__ cdv A outer s H E) E := passes_call (takes_of rfl rfl rfl rfl) fun _ _ _ _ h => h
  have pO : PassesOwn (model P w) (cxOf (L2.CX P w) P w K mg base nm_Ratio___sub__ "Ratio.__sub__" (defScope st_Ratio___sub__) x.f_Ratio___sub__ cdv A outer s H E).A (cxOf (L2.CX P w) P w K mg base nm_Ratio___sub__ "Ratio.__sub__" (defScope st_Ratio___sub__) x.f_Ratio___sub__ cdv A outer s H E).env (cxOf (L2.CX P w) P w K mg base nm_Ratio___sub__ "Ratio.__sub__" (defScope st_Ratio___sub__) x.f_Ratio___sub__ cdv A outer s H E).xe := passes_of rfl
  exact ⟨rd_Ratio___sub__ K a E, ((pss_cons (ps_if (pt_not (pt_val (pe_call (ok_is_fraction T) (hr.mono (by decide)) rfl T.g_is_fraction T.kp_is_fraction T.b_is_fraction .nil pE (pa_cons (pv 1) pa_nil)))) (pss_one ps_never) pss_nil)
  (pss_cons (ps_set (i := 2) sc_Ratio___sub__.nd rfl (by first | exact Or.inl rfl | exact Or.inr rfl) (pe_call (ok_as_ratio T) (hr.mono (by decide)) rfl T.g_as_ratio T.kp_as_ratio T.b_as_ratio .nil pE (pa_cons (pv 1) pa_nil)))
  (pss_one (ps_ret (pe_make T.mk_Ratio (ok_Ratio___init__ T) (hr.mono (by decide)) rfl T.g_Ratio T.b_Ratio___init__ .nil pE (pa_cons (pe_op op_sub (pe_op op_mulM (pe_fldC T.cl_Ratio T.na_Ratio_top (pv 0)) (pe_fldC T.cl_Ratio T.na_Ratio_bottom (pv 2))) (pe_op op_mulM (pe_fldC T.cl_Ratio T.na_Ratio_top (pv 2)) (pe_fldC T.cl_Ratio T.na_Ratio_bottom (pv 0)))) (pa_cons (pe_op op_mulM (pe_fldC T.cl_Ratio T.na_Ratio_bottom (pv 0)) (pe_fldC T.cl_Ratio T.na_Ratio_bottom (pv 2))) pa_nil)))))))), read_Ratio___sub__ T.in_Ratio h⟩
theorem ok_compared (T : Txt K mg a x) : FnOk P w K mg base (L2.CX P w) 1 x.f_compared x.d_compared ["one", "other"] (sp_compared K a) := by
  refine T.F_compared.okX sc_compared (fun vs H Q E h => by first | (obtain ⟨_, rfl, _⟩ := h; rfl) | (obtain ⟨_, _, rfl, _⟩ := h; rfl) | (obtain ⟨_, _, _, rfl, _⟩ := h; rfl) | (obtain ⟨_, _, _, _, rfl, _⟩ := h; rfl) | (obtain ⟨_, _, _, _, _, rfl, _⟩ := h; rfl) | (obtain ⟨_, _, _, _, _, _, rfl, _⟩ := h; rfl) | (obtain ⟨_, _, _, _, _, _, _, rfl, _⟩ := h; rfl)) (fun cdv A outer s H vs Q E hr h => ?_)
  have pE : Passes (L2.CX P w) (cxOf (L2.CX P w) P w K mg base nm_compared "compared" (defScope st_compared) x.f_compared cdv A outer s H E) E := passes_call (takes_of rfl rfl rfl rfl) fun _ _ _ _ h => h
  have pO : PassesOwn (model P w) (cxOf (L2.CX P w) P w K mg base nm_compared "compared" (defScope st_compared) x.f_compared cdv A outer s H E).A (cxOf (L2.CX P w) P w K mg base nm_compared "compared" (defScope st_compared) x.f_compared cdv A outer s H E).env (cxOf (L2.CX P w) P w K mg base nm_compared "compared" (defScope st_compared) x.f_compared cdv A outer s H E).xe := passes_of rfl
  exact ⟨rd_compared K a E, ((pss_cons (ps_par (i := 2) (j := 3) rfl sc_compared.nd rfl rfl (by decide) rfl rfl (pa_cons (pe_op op_mulM (pe_fldC T.cl_Ratio T.na_Ratio_top (pv 0)) (pe_fldC T.cl_Ratio T.na_Ratio_bottom (pv 1))) (pa_cons (pe_op op_mulM (pe_fldC T.cl_Ratio T.na_Ratio_top (pv 1)) (pe_fldC T.cl_Ratio T.na_Ratio_bottom (pv 0))) pa_nil)) (by rfl))
  (pss_cons (ps_if (pt_cmpR op_eq (pv 2) (pv 3) (nomark _)) (pss_one (ps_ret pe_int)) pss_nil)
  (pss_one (ps_ret (pe_ifExp (pt_cmpR op_lt (pv 2) (pv 3) (nomark _)) (pe_un un_neg pe_int) pe_int)))))), read_compared  h⟩
theorem ok_Ratio_compared (T : Txt K mg a x) : FnOk P w K mg base (L2.CX P w) 7 x.f_Ratio_compared x.d_Ratio_compared ["self", "other"] (sp_Ratio_compared K a) := by
  refine T.F_Ratio_compared.okX sc_Ratio_compared (fun vs H Q E h => by first | (obtain ⟨_, rfl, _⟩ := h; rfl) | (obtain ⟨_, _, rfl, _⟩ := h; rfl) | (obtain ⟨_, _, _, rfl, _⟩ := h; rfl) | (obtain ⟨_, _, _, _, rfl, _⟩ := h; rfl) | (obtain ⟨_, _, _, _, _, rfl, _⟩ := h; rfl) | (obtain ⟨_, _, _, _, _, _, rfl, _⟩ := h; rfl) | (obtain ⟨_, _, _, _, _, _, _, rfl, _⟩ := h; rfl)) (fun cdv A outer s H vs Q E hr h => ?_)
  have pE : Passes (L2.CX P w) (cxOf (L2.CX P w) P w K mg base nm_Ratio_compared "Ratio.compared" (defScope st_Ratio_compared) x.f_Ratio_compared cdv A outer s H E) E := passes_call (takes_of rfl rfl rfl rfl) fun _ _ _ _ h => h
  have pO : PassesOwn (model P w) (cxOf (L2.CX P w) P w K mg base nm_Ratio_compared "Ratio.compared" (defScope st_Ratio_compared) x.f_Ratio_compared cdv A outer s H E).A (cxOf (L2.CX P w) P w K mg base nm_Ratio_compared "Ratio.compared" (defScope st_Ratio_compared) x.f_Ratio_compared cdv A outer s H E).env (cxOf (L2.CX P w) P w K mg base nm_Ratio_compared "Ratio.compared" (defScope st_Ratio_compared) x.f_Ratio_compared cdv A outer s H E).xe := passes_of rfl
  exact ⟨rd_Ratio_compared K a E, ((pss_cons (ps_if (pt_not (pt_val (pe_call (ok_is_fraction T) (hr.mono (by decide)) rfl T.g_is_fraction T.kp_is_fraction T.b_is_fraction .nil pE (pa_cons (pv 1) pa_nil)))) (pss_one ps_never) pss_nil)
  (pss_one (ps_ret (pe_call (ok_compared T) (hr.mono (by decide)) rfl T.g_compared_ratios T.kp_compared T.b_compared .nil pE (pa_cons (pv 0) (pa_cons (pe_call (ok_as_ratio T) (hr.mono (by decide)) rfl T.g_as_ratio T.kp_as_ratio T.b_as_ratio .nil pE (pa_cons (pv 1) pa_nil)) pa_nil))))))), read_Ratio_compared T.in_Ratio h⟩
theorem ok_Ratio_over (T : Txt K mg a x) : FnOk P w K mg base (L2.CX P w) 7 x.f_Ratio_over x.d_Ratio_over ["self", "other"] (sp_Ratio_over K a) := by
  refine T.F_Ratio_over.okX sc_Ratio_over (fun vs H Q E h => by first | (obtain ⟨_, rfl, _⟩ := h; rfl) | (obtain ⟨_, _, rfl, _⟩ := h; rfl) | (obtain ⟨_, _, _, rfl, _⟩ := h; rfl) | (obtain ⟨_, _, _, _, rfl, _⟩ := h; rfl) | (obtain ⟨_, _, _, _, _, rfl, _⟩ := h; rfl) | (obtain ⟨_, _, _, _, _, _, rfl, _⟩ := h; rfl) | (obtain ⟨_, _, _, _, _, _, _, rfl, _⟩ := h; rfl)) (fun cdv A outer s H vs Q E hr h => ?_)
  have pE : Passes (L2.CX P w) (cxOf (L2.CX P w) P w K mg base nm_Ratio_over "Ratio.over" (defScope st_Ratio_over) x.f_Ratio_over cdv A outer s H E) E := passes_call (takes_of rfl rfl rfl rfl) fun _ _ _ _ h => h
  have pO : PassesOwn (model P w) (cxOf (L2.CX P w) P w K mg base nm_Ratio_over "Ratio.over" (defScope st_Ratio_over) x.f_Ratio_over cdv A outer s H E).A (cxOf (L2.CX P w) P w K mg base nm_Ratio_over "Ratio.over" (defScope st_Ratio_over) x.f_Ratio_over cdv A outer s H E).env (cxOf (L2.CX P w) P w K mg base nm_Ratio_over "Ratio.over" (defScope st_Ratio_over) x.f_Ratio_over cdv A outer s H E).xe := passes_of rfl
  exact ⟨rd_Ratio_over K a E, ((pss_cons (ps_if (PW.pt (pw_or (pt_not (pt_val (pe_call (ok_is_fraction T) (hr.mono (by decide)) rfl T.g_is_fraction T.kp_is_fraction T.b_is_fraction .nil pE (pa_cons (pv 1) pa_nil)))) (pw_or1 (pt_cmpR op_eq (pe_fldC T.cl_Ratio T.na_Ratio_top (pe_call (ok_as_ratio T) (hr.mono (by decide)) rfl T.g_as_ratio T.kp_as_ratio T.b_as_ratio .nil pE (pa_cons (pv 1) pa_nil))) pe_int (nomark _))))) (pss_one ps_never) pss_nil)
  (pss_cons (ps_set (i := 2) sc_Ratio_over.nd rfl (by first | exact Or.inl rfl | exact Or.inr rfl) (pe_call (ok_as_ratio T) (hr.mono (by decide)) rfl T.g_as_ratio T.kp_as_ratio T.b_as_ratio .nil pE (pa_cons (pv 1) pa_nil)))
  (pss_cons (ps_set (i := 3) sc_Ratio_over.nd rfl (by first | exact Or.inl rfl | exact Or.inr rfl) (pe_ifExp (pt_cmpR op_gt (pe_fldC T.cl_Ratio T.na_Ratio_top (pv 2)) pe_int (nomark _)) pe_int (pe_un un_neg pe_int)))
  (pss_one (ps_ret (pe_make T.mk_Ratio (ok_Ratio___init__ T) (hr.mono (by decide)) rfl T.g_Ratio T.b_Ratio___init__ .nil pE (pa_cons (pe_op op_mulM (pe_op op_mulM (pv 3) (pe_fldC T.cl_Ratio T.na_Ratio_top (pv 0))) (pe_fldC T.cl_Ratio T.na_Ratio_bottom (pv 2))) (pa_cons (pe_op op_mulM (pe_op op_mulM (pv 3) (pe_fldC T.cl_Ratio T.na_Ratio_bottom (pv 0))) (pe_fldC T.cl_Ratio T.na_Ratio_top (pv 2))) pa_nil))))))))), read_Ratio_over T.in_Ratio h⟩
theorem ok__law_lowest (T : Txt K mg a x) : FnOk P w K mg base (L2.CX P w) 1 x.f__law_lowest x.d__law_lowest ["_law_upper", "_law_lower"] (sp__law_lowest K a) := by
  refine T.F__law_lowest.okX sc__law_lowest (fun vs H Q E h => by first | (obtain ⟨_, rfl, _⟩ := h; rfl) | (obtain ⟨_, _, rfl, _⟩ := h; rfl) | (obtain ⟨_, _, _, rfl, _⟩ := h; rfl) | (obtain ⟨_, _, _, _, rfl, _⟩ := h; rfl) | (obtain ⟨_, _, _, _, _, rfl, _⟩ := h; rfl) | (obtain ⟨_, _, _, _, _, _, rfl, _⟩ := h; rfl) | (obtain ⟨_, _, _, _, _, _, _, rfl, _⟩ := h; rfl)) (fun cdv A outer s H vs Q E hr h => ?_)
  have pE : Passes (L2.CX P w) (cxOf (L2.CX P w) P w K mg base nm__law_lowest "_law_lowest" (defScope st__law_lowest) x.f__law_lowest cdv A outer s H E) E := passes_call (takes_of rfl rfl rfl rfl) fun _ _ _ _ h => h
  have pO : PassesOwn (model P w) (cxOf (L2.CX P w) P w K mg base nm__law_lowest "_law_lowest" (defScope st__law_lowest) x.f__law_lowest cdv A outer s H E).A (cxOf (L2.CX P w) P w K mg base nm__law_lowest "_law_lowest" (defScope st__law_lowest) x.f__law_lowest cdv A outer s H E).env (cxOf (L2.CX P w) P w K mg base nm__law_lowest "_law_lowest" (defScope st__law_lowest) x.f__law_lowest cdv A outer s H E).xe := passes_of rfl
  exact ⟨rd__law_lowest K a E, ((pss_cons (ps_par (i := 2) (j := 3) rfl sc__law_lowest.nd rfl rfl (by decide) rfl rfl (pa_cons (pe_callB call_absX (by rfl) T.n_abs (by decide +kernel) (pa_cons (pv 0) pa_nil)) (pa_cons (pe_callB call_absX (by rfl) T.n_abs (by decide +kernel) (pa_cons (pv 1) pa_nil)) pa_nil)) (by rfl))
  (pss_cons (ps_while pO (pt_cmpR op_gt (pv 3) pe_int (nomark _)) (pss_one (ps_par (i := 2) (j := 3) rfl sc__law_lowest.nd rfl rfl (by decide) rfl rfl (pa_cons (pv 3) (pa_cons (pe_op op_modN (pe_callTy call_int1X (by rfl) T.n_int (by decide +kernel) (pa_cons (pv 2) pa_nil)) (pv 3)) pa_nil)) (by rfl))))
  (pss_cons (ps_set (i := 4) sc__law_lowest.nd rfl (by first | exact Or.inl rfl | exact Or.inr rfl) (pe_ifExp (pt_cmpR op_gt (pv 1) pe_int (nomark _)) (pv 2) (pe_op op_sub pe_int (pv 2))))
  (pss_one (ps_ret (pe_tup (pa_cons (pe_op op_fdivX (pv 0) (pv 4)) (pa_cons (pe_op op_fdivX (pv 1) (pv 4)) pa_nil))))))))), read__law_lowest  h⟩
theorem ok__law_parts (T : Txt K mg a x) : FnOk P w K mg base (L2.CX P w) 1 x.f__law_parts x.d__law_parts ["_law_made"] (sp__law_parts K a) := by
  refine T.F__law_parts.okX sc__law_parts (fun vs H Q E h => by first | (obtain ⟨_, rfl, _⟩ := h; rfl) | (obtain ⟨_, _, rfl, _⟩ := h; rfl) | (obtain ⟨_, _, _, rfl, _⟩ := h; rfl) | (obtain ⟨_, _, _, _, rfl, _⟩ := h; rfl) | (obtain ⟨_, _, _, _, _, rfl, _⟩ := h; rfl) | (obtain ⟨_, _, _, _, _, _, rfl, _⟩ := h; rfl) | (obtain ⟨_, _, _, _, _, _, _, rfl, _⟩ := h; rfl)) (fun cdv A outer s H vs Q E hr h => ?_)
  have pE : Passes (L2.CX P w) (cxOf (L2.CX P w) P w K mg base nm__law_parts "_law_parts" (defScope st__law_parts) x.f__law_parts cdv A outer s H E) E := passes_call (takes_of rfl rfl rfl rfl) fun _ _ _ _ h => h
  have pO : PassesOwn (model P w) (cxOf (L2.CX P w) P w K mg base nm__law_parts "_law_parts" (defScope st__law_parts) x.f__law_parts cdv A outer s H E).A (cxOf (L2.CX P w) P w K mg base nm__law_parts "_law_parts" (defScope st__law_parts) x.f__law_parts cdv A outer s H E).env (cxOf (L2.CX P w) P w K mg base nm__law_parts "_law_parts" (defScope st__law_parts) x.f__law_parts cdv A outer s H E).xe := passes_of rfl
  exact ⟨rd__law_parts K a E, ((pss_one (ps_ret (pe_tup (pa_cons (pe_fldC T.cl_Ratio T.na_Ratio_top (pv 0)) (pa_cons (pe_fldC T.cl_Ratio T.na_Ratio_bottom (pv 0)) pa_nil)))))), read__law_parts  h⟩
theorem ok__law_pair_right (T : Txt K mg a x) : FnOk P w K mg base (L2.CX P w) 9 x.f__law_pair_right x.d__law_pair_right ["_law_one_here", "_law_two"] (sp__law_pair_right K a) := by
  refine T.F__law_pair_right.okX sc__law_pair_right (fun vs H Q E h => by first | (obtain ⟨_, rfl, _⟩ := h; rfl) | (obtain ⟨_, _, rfl, _⟩ := h; rfl) | (obtain ⟨_, _, _, rfl, _⟩ := h; rfl) | (obtain ⟨_, _, _, _, rfl, _⟩ := h; rfl) | (obtain ⟨_, _, _, _, _, rfl, _⟩ := h; rfl) | (obtain ⟨_, _, _, _, _, _, rfl, _⟩ := h; rfl) | (obtain ⟨_, _, _, _, _, _, _, rfl, _⟩ := h; rfl)) (fun cdv A outer s H vs Q E hr h => ?_)
  have pE : Passes (L2.CX P w) (cxOf (L2.CX P w) P w K mg base nm__law_pair_right "_law_pair_right" (defScope st__law_pair_right) x.f__law_pair_right cdv A outer s H E) E := passes_call (takes_of rfl rfl rfl rfl) fun _ _ _ _ h => h
  have pO : PassesOwn (model P w) (cxOf (L2.CX P w) P w K mg base nm__law_pair_right "_law_pair_right" (defScope st__law_pair_right) x.f__law_pair_right cdv A outer s H E).A (cxOf (L2.CX P w) P w K mg base nm__law_pair_right "_law_pair_right" (defScope st__law_pair_right) x.f__law_pair_right cdv A outer s H E).env (cxOf (L2.CX P w) P w K mg base nm__law_pair_right "_law_pair_right" (defScope st__law_pair_right) x.f__law_pair_right cdv A outer s H E).xe := passes_of rfl
  exact ⟨rd__law_pair_right K a E, ((pss_cons (ps_par (i := 2) (j := 3) rfl sc__law_pair_right.nd rfl rfl (by decide) rfl rfl (pa_cons (pe_make T.mk_Ratio (ok_Ratio___init__ T) (hr.mono (by decide)) rfl T.g_Ratio T.b_Ratio___init__ .nil pE (pa_cons (pe_ix ix_tup (pv 0) pe_int (fun _ _ => rfl)) (pa_cons (pe_ix ix_tup (pv 0) pe_int (fun _ _ => rfl)) pa_nil))) (pa_cons (pe_makeK0 T.mk_Ratio (ok_Ratio___init__ T) (hr.mono (by decide)) (by rfl) T.g_Ratio (T.kb_Ratio___init___0_bottom_top).choose_spec pE (pk_cons (pe_ix ix_tup (pv 1) pe_int (fun _ _ => rfl)) (pk_cons (pe_ix ix_tup (pv 1) pe_int (fun _ _ => rfl)) pk_nil))) pa_nil)) (by rfl))
  (pss_cons (ps_if (PW.pt (pw_or (pt_cmpR (op_neD hr.units) (pe_call (ok__law_parts T) (hr.mono (by decide)) rfl T.g__law_parts T.kp__law_parts T.b__law_parts .nil pE (pa_cons (pv 2) pa_nil)) (pe_call (ok__law_lowest T) (hr.mono (by decide)) rfl T.g__law_lowest T.kp__law_lowest T.b__law_lowest .nil pE (pa_cons (pe_ix ix_tup (pv 0) pe_int (fun _ _ => rfl)) (pa_cons (pe_ix ix_tup (pv 0) pe_int (fun _ _ => rfl)) pa_nil))) (nomark _)) (pw_or1 (pt_cmpR (op_neD hr.units) (pe_call (ok__law_parts T) (hr.mono (by decide)) rfl T.g__law_parts T.kp__law_parts T.b__law_parts .nil pE (pa_cons (pv 3) pa_nil)) (pe_call (ok__law_lowest T) (hr.mono (by decide)) rfl T.g__law_lowest T.kp__law_lowest T.b__law_lowest .nil pE (pa_cons (pe_ix ix_tup (pv 1) pe_int (fun _ _ => rfl)) (pa_cons (pe_ix ix_tup (pv 1) pe_int (fun _ _ => rfl)) pa_nil))) (nomark _))))) (pss_one (ps_ret pe_bl)) pss_nil)
  (pss_cons (ps_set (i := 4) sc__law_pair_right.nd rfl (by first | exact Or.inl rfl | exact Or.inr rfl) (pe_tup (pa_cons (pe_op op_mulM (pe_ix ix_tup (pv 0) pe_int (fun _ _ => rfl)) (pe_ix ix_tup (pv 1) pe_int (fun _ _ => rfl))) (pa_cons (pe_op op_mulM (pe_ix ix_tup (pv 1) pe_int (fun _ _ => rfl)) (pe_ix ix_tup (pv 0) pe_int (fun _ _ => rfl))) pa_nil))))
  (pss_cons (ps_setLc (i := 5) (own := [("_law_each", 6)]) rfl sc__law_pair_right.nd rfl rfl (sw_true rfl rfl rfl (by decide +kernel)) (pi_list (pe_lst (pa_cons (pe_op (op_own2 T.sf_Ratio T.o_Ratio_add (ok_Ratio___add__ T) (hr.mono (by decide)) T.b_Ratio___add__ pE) (pv 2) (pv 3)) (pa_cons (pe_op (op_own2 T.sf_Ratio T.o_Ratio_sub (ok_Ratio___sub__ T) (hr.mono (by decide)) T.b_Ratio___sub__ pE) (pv 2) (pv 3)) (pa_cons (pe_op (op_own2 T.sf_Ratio T.o_Ratio_mul (ok_Ratio___mul__ T) (hr.mono (by decide)) T.b_Ratio___mul__ pE) (pv 2) (pv 3)) (pa_cons (pe_un (un_own T.o_Ratio_neg (ok_Ratio___neg__ T) (hr.mono (by decide)) T.b_Ratio___neg__ pE) (pv 2)) pa_nil)))))) (blkOk_by (own := [("_law_each", 6)]) (N := nm__law_pair_right) (sc := defScope st__law_pair_right) (by decide +kernel)) (fun _ _ _ _ _ => (pg_name (i := 6) sc__law_pair_right.nd rfl (by first | exact Or.inl rfl | exact Or.inr rfl))) (fun _ _ _ _ _ => pts_nil) (fun _ _ _ _ _ => (pe_call (ok__law_parts T) (hr.mono (by decide)) rfl T.g__law_parts T.kp__law_parts T.b__law_parts .nil passL (pa_cons (pv 6) pa_nil))))
  (pss_cons (ps_set (i := 7) sc__law_pair_right.nd rfl (by first | exact Or.inl rfl | exact Or.inr rfl) (pe_op op_mulM (pe_ix ix_tup (pv 0) pe_int (fun _ _ => rfl)) (pe_ix ix_tup (pv 1) pe_int (fun _ _ => rfl))))
  (pss_cons (ps_set (i := 8) sc__law_pair_right.nd rfl (by first | exact Or.inl rfl | exact Or.inr rfl) (pe_lst (pa_cons (pe_call (ok__law_lowest T) (hr.mono (by decide)) rfl T.g__law_lowest T.kp__law_lowest T.b__law_lowest .nil pE (pa_cons (pe_op op_add (pe_ix ix_tup (pv 4) pe_int (fun _ _ => rfl)) (pe_ix ix_tup (pv 4) pe_int (fun _ _ => rfl))) (pa_cons (pv 7) pa_nil))) (pa_cons (pe_call (ok__law_lowest T) (hr.mono (by decide)) rfl T.g__law_lowest T.kp__law_lowest T.b__law_lowest .nil pE (pa_cons (pe_op op_sub (pe_ix ix_tup (pv 4) pe_int (fun _ _ => rfl)) (pe_ix ix_tup (pv 4) pe_int (fun _ _ => rfl))) (pa_cons (pv 7) pa_nil))) pa_nil))))
  (pss_cons (ps_expr (pe_bm PySem.F.plainAttrs_list PySem.F.slot_list_append PySem.F.type_list_append mt_append (pv 8) (pa_cons (pe_call (ok__law_lowest T) (hr.mono (by decide)) rfl T.g__law_lowest T.kp__law_lowest T.b__law_lowest .nil pE (pa_cons (pe_op op_mulM (pe_ix ix_tup (pv 0) pe_int (fun _ _ => rfl)) (pe_ix ix_tup (pv 1) pe_int (fun _ _ => rfl))) (pa_cons (pv 7) pa_nil))) pa_nil)))
  (pss_cons (ps_expr (pe_bm PySem.F.plainAttrs_list PySem.F.slot_list_append PySem.F.type_list_append mt_append (pv 8) (pa_cons (pe_call (ok__law_lowest T) (hr.mono (by decide)) rfl T.g__law_lowest T.kp__law_lowest T.b__law_lowest .nil pE (pa_cons (pe_op op_sub pe_int (pe_ix ix_tup (pv 0) pe_int (fun _ _ => rfl))) (pa_cons (pe_ix ix_tup (pv 0) pe_int (fun _ _ => rfl)) pa_nil))) pa_nil)))
  (pss_cons (ps_set (i := 9) sc__law_pair_right.nd rfl (by first | exact Or.inl rfl | exact Or.inr rfl) (pe_op op_sub (pe_callTy call_int1X (by rfl) T.n_int (by decide +kernel) (pa_cons (pe_cmpR op_gt (pe_ix ix_tup (pv 4) pe_int (fun _ _ => rfl)) (pe_ix ix_tup (pv 4) pe_int (fun _ _ => rfl)) (nomark _)) pa_nil)) (pe_callTy call_int1X (by rfl) T.n_int (by decide +kernel) (pa_cons (pe_cmpR op_lt (pe_ix ix_tup (pv 4) pe_int (fun _ _ => rfl)) (pe_ix ix_tup (pv 4) pe_int (fun _ _ => rfl)) (nomark _)) pa_nil))))
  (pss_cons (ps_if (PW.pt (pw_or (pt_cmpR (op_neD hr.units) (pv 5) (pv 8) (nomark _)) (pw_or1 (pt_cmpR op_ne (pe_meth (pv 2) T.cl_Ratio T.m_Ratio_compared (ok_Ratio_compared T) (hr.mono (by decide)) T.b_Ratio_compared .nil pE (pa_cons (pv 3) pa_nil)) (pv 9) (nomark _))))) (pss_one (ps_ret pe_bl)) pss_nil)
  (pss_cons (ps_if (PW.pt (pw_or (pt_cmpR op_ne (pe_cmpR (op_eqOwn T.o_Ratio_eq (ok_Ratio___eq__ T) (hr.mono (by decide)) T.b_Ratio___eq__ pE) (pv 2) (pv 3) (nomark _)) (pe_cmpR op_eq (pe_ix ix_tup (pv 4) pe_int (fun _ _ => rfl)) (pe_ix ix_tup (pv 4) pe_int (fun _ _ => rfl)) (nomark _)) (nomark _)) (pw_or1 (pt_cmpR op_eq (pe_cmpR (op_neOwn T.o_Ratio_eq T.ne_Ratio T.ob_Ratio (ok_Ratio___eq__ T) (hr.mono (by decide)) T.b_Ratio___eq__ pE) (pv 2) (pv 3) (nomark _)) (pe_cmpR (op_eqOwn T.o_Ratio_eq (ok_Ratio___eq__ T) (hr.mono (by decide)) T.b_Ratio___eq__ pE) (pv 2) (pv 3) (nomark _)) (nomark _))))) (pss_one (ps_ret pe_bl)) pss_nil)
  (pss_cons (ps_if (pt_cmpR op_eq (pe_ix ix_tup (pv 1) pe_int (fun _ _ => rfl)) pe_int (nomark _)) (pss_one (ps_ret pe_bl)) pss_nil)
  (pss_one (ps_ret (pe_cmpR (op_eqD hr.units) (pe_call (ok__law_parts T) (hr.mono (by decide)) rfl T.g__law_parts T.kp__law_parts T.b__law_parts .nil pE (pa_cons (pe_meth (pv 2) T.cl_Ratio T.m_Ratio_over (ok_Ratio_over T) (hr.mono (by decide)) T.b_Ratio_over .nil pE (pa_cons (pv 3) pa_nil)) pa_nil)) (pe_call (ok__law_lowest T) (hr.mono (by decide)) rfl T.g__law_lowest T.kp__law_lowest T.b__law_lowest .nil pE (pa_cons (pe_ix ix_tup (pv 4) pe_int (fun _ _ => rfl)) (pa_cons (pe_op op_mulM (pe_ix ix_tup (pv 0) pe_int (fun _ _ => rfl)) (pe_ix ix_tup (pv 1) pe_int (fun _ _ => rfl))) pa_nil))) (nomark _))))))))))))))))), read__law_pair_right T.kf T.in_Ratio h⟩
theorem ok_Ratio___radd__ (T : Txt K mg a x) : FnOk P w K mg base (L2.CX P w) 9 x.f_Ratio___radd__ x.d_Ratio___radd__ ["self", "other"] (sp_Ratio___radd__ K a) := by
  refine T.F_Ratio___radd__.okX sc_Ratio___radd__ (fun vs H Q E h => by first | (obtain ⟨_, rfl, _⟩ := h; rfl) | (obtain ⟨_, _, rfl, _⟩ := h; rfl) | (obtain ⟨_, _, _, rfl, _⟩ := h; rfl) | (obtain ⟨_, _, _, _, rfl, _⟩ := h; rfl) | (obtain ⟨_, _, _, _, _, rfl, _⟩ := h; rfl) | (obtain ⟨_, _, _, _, _, _, rfl, _⟩ := h; rfl) | (obtain ⟨_, _, _, _, _, _, _, rfl, _⟩ := h; rfl)) (fun cdv A outer s H vs Q E hr h => ?_)
  have pE : Passes (L2.CX P w) (cxOf (L2.CX P w) P w K mg base nm_Ratio___radd__ "Ratio.__radd__" (defScope st_Ratio___radd__) x.f_Ratio___radd__ cdv A outer s H E) E := passes_call (takes_of rfl rfl rfl rfl) fun _ _ _ _ h => h
  have pO : PassesOwn (model P w) (cxOf (L2.CX P w) P w K mg base nm_Ratio___radd__ "Ratio.__radd__" (defScope st_Ratio___radd__) x.f_Ratio___radd__ cdv A outer s H E).A (cxOf (L2.CX P w) P w K mg base nm_Ratio___radd__ "Ratio.__radd__" (defScope st_Ratio___radd__) x.f_Ratio___radd__ cdv A outer s H E).env (cxOf (L2.CX P w) P w K mg base nm_Ratio___radd__ "Ratio.__radd__" (defScope st_Ratio___radd__) x.f_Ratio___radd__ cdv A outer s H E).xe := passes_of rfl
  exact ⟨rd_Ratio___radd__ K a E, ((pss_cons (ps_if (pt_not (pt_val (pe_call (ok_is_fraction T) (hr.mono (by decide)) rfl T.g_is_fraction T.kp_is_fraction T.b_is_fraction .nil pE (pa_cons (pv 1) pa_nil)))) (pss_one ps_never) pss_nil)
  (pss_one (ps_ret (pe_op (op_own2 T.sf_Ratio T.o_Ratio_add (ok_Ratio___add__ T) (hr.mono (by decide)) T.b_Ratio___add__ pE) (pe_call (ok_as_ratio T) (hr.mono (by decide)) rfl T.g_as_ratio T.kp_as_ratio T.b_as_ratio .nil pE (pa_cons (pv 1) pa_nil)) (pv 0)))))), read_Ratio___radd__ T.in_Ratio h⟩
theorem ok_Ratio___rmul__ (T : Txt K mg a x) : FnOk P w K mg base (L2.CX P w) 9 x.f_Ratio___rmul__ x.d_Ratio___rmul__ ["self", "other"] (sp_Ratio___rmul__ K a) := by
  refine T.F_Ratio___rmul__.okX sc_Ratio___rmul__ (fun vs H Q E h => by first | (obtain ⟨_, rfl, _⟩ := h; rfl) | (obtain ⟨_, _, rfl, _⟩ := h; rfl) | (obtain ⟨_, _, _, rfl, _⟩ := h; rfl) | (obtain ⟨_, _, _, _, rfl, _⟩ := h; rfl) | (obtain ⟨_, _, _, _, _, rfl, _⟩ := h; rfl) | (obtain ⟨_, _, _, _, _, _, rfl, _⟩ := h; rfl) | (obtain ⟨_, _, _, _, _, _, _, rfl, _⟩ := h; rfl)) (fun cdv A outer s H vs Q E hr h => ?_)
  have pE : Passes (L2.CX P w) (cxOf (L2.CX P w) P w K mg base nm_Ratio___rmul__ "Ratio.__rmul__" (defScope st_Ratio___rmul__) x.f_Ratio___rmul__ cdv A outer s H E) E := passes_call (takes_of rfl rfl rfl rfl) fun _ _ _ _ h => h
  have pO : PassesOwn (model P w) (cxOf (L2.CX P w) P w K mg base nm_Ratio___rmul__ "Ratio.__rmul__" (defScope st_Ratio___rmul__) x.f_Ratio___rmul__ cdv A outer s H E).A (cxOf (L2.CX P w) P w K mg base nm_Ratio___rmul__ "Ratio.__rmul__" (defScope st_Ratio___rmul__) x.f_Ratio___rmul__ cdv A outer s H E).env (cxOf (L2.CX P w) P w K mg base nm_Ratio___rmul__ "Ratio.__rmul__" (defScope st_Ratio___rmul__) x.f_Ratio___rmul__ cdv A outer s H E).xe := passes_of rfl
  exact ⟨rd_Ratio___rmul__ K a E, ((pss_cons (ps_if (pt_not (pt_val (pe_call (ok_is_fraction T) (hr.mono (by decide)) rfl T.g_is_fraction T.kp_is_fraction T.b_is_fraction .nil pE (pa_cons (pv 1) pa_nil)))) (pss_one ps_never) pss_nil)
  (pss_one (ps_ret (pe_op (op_own2 T.sf_Ratio T.o_Ratio_mul (ok_Ratio___mul__ T) (hr.mono (by decide)) T.b_Ratio___mul__ pE) (pe_call (ok_as_ratio T) (hr.mono (by decide)) rfl T.g_as_ratio T.kp_as_ratio T.b_as_ratio .nil pE (pa_cons (pv 1) pa_nil)) (pv 0)))))), read_Ratio___rmul__ T.in_Ratio h⟩
theorem ok_Ratio___rsub__ (T : Txt K mg a x) : FnOk P w K mg base (L2.CX P w) 9 x.f_Ratio___rsub__ x.d_Ratio___rsub__ ["self", "other"] (sp_Ratio___rsub__ K a) := by
  refine T.F_Ratio___rsub__.okX sc_Ratio___rsub__ (fun vs H Q E h => by first | (obtain ⟨_, rfl, _⟩ := h; rfl) | (obtain ⟨_, _, rfl, _⟩ := h; rfl) | (obtain ⟨_, _, _, rfl, _⟩ := h; rfl) | (obtain ⟨_, _, _, _, rfl, _⟩ := h; rfl) | (obtain ⟨_, _, _, _, _, rfl, _⟩ := h; rfl) | (obtain ⟨_, _, _, _, _, _, rfl, _⟩ := h; rfl) | (obtain ⟨_, _, _, _, _, _, _, rfl, _⟩ := h; rfl)) (fun cdv A outer s H vs Q E hr h => ?_)
  have pE : Passes (L2.CX P w) (cxOf (L2.CX P w) P w K mg base nm_Ratio___rsub__ "Ratio.__rsub__" (defScope st_Ratio___rsub__) x.f_Ratio___rsub__ cdv A outer s H E) E := passes_call (takes_of rfl rfl rfl rfl) fun _ _ _ _ h => h
  have pO : PassesOwn (model P w) (cxOf (L2.CX P w) P w K mg base nm_Ratio___rsub__ "Ratio.__rsub__" (defScope st_Ratio___rsub__) x.f_Ratio___rsub__ cdv A outer s H E).A (cxOf (L2.CX P w) P w K mg base nm_Ratio___rsub__ "Ratio.__rsub__" (defScope st_Ratio___rsub__) x.f_Ratio___rsub__ cdv A outer s H E).env (cxOf (L2.CX P w) P w K mg base nm_Ratio___rsub__ "Ratio.__rsub__" (defScope st_Ratio___rsub__) x.f_Ratio___rsub__ cdv A outer s H E).xe := passes_of rfl
  exact ⟨rd_Ratio___rsub__ K a E, ((pss_cons (ps_if (pt_not (pt_val (pe_call (ok_is_fraction T) (hr.mono (by decide)) rfl T.g_is_fraction T.kp_is_fraction T.b_is_fraction .nil pE (pa_cons (pv 1) pa_nil)))) (pss_one ps_never) pss_nil)
  (pss_one (ps_ret (pe_op (op_own2 T.sf_Ratio T.o_Ratio_sub (ok_Ratio___sub__ T) (hr.mono (by decide)) T.b_Ratio___sub__ pE) (pe_call (ok_as_ratio T) (hr.mono (by decide)) rfl T.g_as_ratio T.kp_as_ratio T.b_as_ratio .nil pE (pa_cons (pv 1) pa_nil)) (pv 0)))))), read_Ratio___rsub__ T.in_Ratio h⟩
theorem ok__law_whole_right (T : Txt K mg a x) : FnOk P w K mg base (L2.CX P w) 11 x.f__law_whole_right x.d__law_whole_right ["_law_one_here", "_law_many"] (sp__law_whole_right K a) := by
  refine T.F__law_whole_right.okX sc__law_whole_right (fun vs H Q E h => by first | (obtain ⟨_, rfl, _⟩ := h; rfl) | (obtain ⟨_, _, rfl, _⟩ := h; rfl) | (obtain ⟨_, _, _, rfl, _⟩ := h; rfl) | (obtain ⟨_, _, _, _, rfl, _⟩ := h; rfl) | (obtain ⟨_, _, _, _, _, rfl, _⟩ := h; rfl) | (obtain ⟨_, _, _, _, _, _, rfl, _⟩ := h; rfl) | (obtain ⟨_, _, _, _, _, _, _, rfl, _⟩ := h; rfl)) (fun cdv A outer s H vs Q E hr h => ?_)
  have pE : Passes (L2.CX P w) (cxOf (L2.CX P w) P w K mg base nm__law_whole_right "_law_whole_right" (defScope st__law_whole_right) x.f__law_whole_right cdv A outer s H E) E := passes_call (takes_of rfl rfl rfl rfl) fun _ _ _ _ h => h
  have pO : PassesOwn (model P w) (cxOf (L2.CX P w) P w K mg base nm__law_whole_right "_law_whole_right" (defScope st__law_whole_right) x.f__law_whole_right cdv A outer s H E).A (cxOf (L2.CX P w) P w K mg base nm__law_whole_right "_law_whole_right" (defScope st__law_whole_right) x.f__law_whole_right cdv A outer s H E).env (cxOf (L2.CX P w) P w K mg base nm__law_whole_right "_law_whole_right" (defScope st__law_whole_right) x.f__law_whole_right cdv A outer s H E).xe := passes_of rfl
  exact ⟨rd__law_whole_right K a E, ((pss_cons (ps_par (i := 2) (j := 3) rfl sc__law_whole_right.nd rfl rfl (by decide) rfl rfl (pa_cons (pe_make T.mk_Ratio (ok_Ratio___init__ T) (hr.mono (by decide)) rfl T.g_Ratio T.b_Ratio___init__ .nil pE (pa_cons (pe_ix ix_tup (pv 0) pe_int (fun _ _ => rfl)) (pa_cons (pe_ix ix_tup (pv 0) pe_int (fun _ _ => rfl)) pa_nil))) (pa_cons (pe_op op_mulM (pv 1) (pe_ix ix_tup (pv 0) pe_int (fun _ _ => rfl))) pa_nil)) (by rfl))
  (pss_cons (ps_set (i := 4) sc__law_whole_right.nd rfl (by first | exact Or.inl rfl | exact Or.inr rfl) (pe_lst (pa_cons (pe_op (op_ownI T.sf_Ratio T.o_Ratio_add (ok_Ratio___add__ T) (hr.mono (by decide)) T.b_Ratio___add__ pE T.r_Ratio_add.rev (.inr ⟨_, rfl⟩) T.r_Ratio_add.i1 T.r_Ratio_add.i2 T.int_Ratio) (pv 2) (pv 1)) (pa_cons (pe_op (op_reflAdd T.r_Ratio_add (ok_Ratio___radd__ T) (hr.mono (by decide)) T.b_Ratio___radd__ pE) (pv 1) (pv 2)) (pa_cons (pe_op (op_ownI T.sf_Ratio T.o_Ratio_sub (ok_Ratio___sub__ T) (hr.mono (by decide)) T.b_Ratio___sub__ pE T.r_Ratio_sub.rev (.inr ⟨_, rfl⟩) T.r_Ratio_sub.i1 T.r_Ratio_sub.i2 T.int_Ratio) (pv 2) (pv 1)) (pa_cons (pe_op (op_reflSub T.r_Ratio_sub (ok_Ratio___rsub__ T) (hr.mono (by decide)) T.b_Ratio___rsub__ pE) (pv 1) (pv 2)) (pa_cons (pe_op (op_ownI T.sf_Ratio T.o_Ratio_mul (ok_Ratio___mul__ T) (hr.mono (by decide)) T.b_Ratio___mul__ pE T.r_Ratio_mul.rev (.inr ⟨_, rfl⟩) T.r_Ratio_mul.i1 T.r_Ratio_mul.i2 T.int_Ratio) (pv 2) (pv 1)) (pa_cons (pe_op (op_reflMul T.r_Ratio_mul (ok_Ratio___rmul__ T) (hr.mono (by decide)) T.b_Ratio___rmul__ pE) (pv 1) (pv 2)) pa_nil))))))))
  (pss_cons (ps_set (i := 5) sc__law_whole_right.nd rfl (by first | exact Or.inl rfl | exact Or.inr rfl) (pe_lst (pa_cons (pe_op op_add (pe_ix ix_tup (pv 0) pe_int (fun _ _ => rfl)) (pv 3)) (pa_cons (pe_op op_add (pe_ix ix_tup (pv 0) pe_int (fun _ _ => rfl)) (pv 3)) (pa_cons (pe_op op_sub (pe_ix ix_tup (pv 0) pe_int (fun _ _ => rfl)) (pv 3)) (pa_cons (pe_op op_sub (pv 3) (pe_ix ix_tup (pv 0) pe_int (fun _ _ => rfl))) (pa_cons (pe_op op_mulM (pe_ix ix_tup (pv 0) pe_int (fun _ _ => rfl)) (pv 1)) (pa_cons (pe_op op_mulM (pe_ix ix_tup (pv 0) pe_int (fun _ _ => rfl)) (pv 1)) pa_nil))))))))
  (pss_cons (ps_for pO rfl (pi_range1 (by rfl) T.n_range (pa_cons pe_int pa_nil)) (pg_name (i := 6) sc__law_whole_right.nd rfl (by first | exact Or.inl rfl | exact Or.inr rfl)) (pss_one (ps_if (pt_cmpR (op_neD hr.units) (pe_call (ok__law_parts T) (hr.mono (by decide)) rfl T.g__law_parts T.kp__law_parts T.b__law_parts .nil pE (pa_cons (pe_ix ix_list (pv 4) (pv 6) (fun _ _ => rfl)) pa_nil)) (pe_call (ok__law_lowest T) (hr.mono (by decide)) rfl T.g__law_lowest T.kp__law_lowest T.b__law_lowest .nil pE (pa_cons (pe_ix ix_list (pv 5) (pv 6) (fun _ _ => rfl)) (pa_cons (pe_ix ix_tup (pv 0) pe_int (fun _ _ => rfl)) pa_nil))) (nomark _)) (pss_one (ps_ret pe_bl)) pss_nil)))
  (pss_cons (ps_if (pt_cmpR op_ne (pe_methK0 (pv 2) T.cl_Ratio T.m_Ratio_compared (ok_Ratio_compared T) (hr.mono (by decide)) (T.kb_Ratio_compared_0_other).choose_spec pE (pk_cons (pv 1) pk_nil)) (pe_op op_sub (pe_callTy call_int1X (by rfl) T.n_int (by decide +kernel) (pa_cons (pe_cmpR op_gt (pe_ix ix_tup (pv 0) pe_int (fun _ _ => rfl)) (pv 3) (nomark _)) pa_nil)) (pe_callTy call_int1X (by rfl) T.n_int (by decide +kernel) (pa_cons (pe_cmpR op_lt (pe_ix ix_tup (pv 0) pe_int (fun _ _ => rfl)) (pv 3) (nomark _)) pa_nil))) (nomark _)) (pss_one (ps_ret pe_bl)) pss_nil)
  (pss_cons (ps_if (PW.pt (pw_or (pt_cmpR (op_neD hr.units) (pe_lst (pa_cons (pe_cmpR (op_eqOwn T.o_Ratio_eq (ok_Ratio___eq__ T) (hr.mono (by decide)) T.b_Ratio___eq__ pE) (pv 2) (pv 1) (nomark _)) (pa_cons (pe_cmpR (op_eqRefl T.o_Ratio_eq T.sub_Ratio (ok_Ratio___eq__ T) (hr.mono (by decide)) T.b_Ratio___eq__ pE) (pv 1) (pv 2) (nomark _)) pa_nil))) (pe_op op_rep (pe_lst (pa_cons (pe_cmpR op_eq (pe_ix ix_tup (pv 0) pe_int (fun _ _ => rfl)) (pv 3) (nomark _)) pa_nil)) pe_int) (nomark _)) (pw_or1 (pt_cmpR (op_eqOwn T.o_Ratio_eq (ok_Ratio___eq__ T) (hr.mono (by decide)) T.b_Ratio___eq__ pE) (pv 2) (pe_tup (pa_cons (pe_fldC T.cl_Ratio T.na_Ratio_top (pv 2)) (pa_cons (pe_fldC T.cl_Ratio T.na_Ratio_bottom (pv 2)) pa_nil))) (nomark _))))) (pss_one (ps_ret pe_bl)) pss_nil)
  (pss_cons (ps_if (pt_cmpR op_eq (pv 1) pe_int (nomark _)) (pss_one (ps_ret pe_bl)) pss_nil)
  (pss_one (ps_ret (pe_cmpR (op_eqD hr.units) (pe_call (ok__law_parts T) (hr.mono (by decide)) rfl T.g__law_parts T.kp__law_parts T.b__law_parts .nil pE (pa_cons (pe_methK0 (pv 2) T.cl_Ratio T.m_Ratio_over (ok_Ratio_over T) (hr.mono (by decide)) (T.kb_Ratio_over_0_other).choose_spec pE (pk_cons (pv 1) pk_nil)) pa_nil)) (pe_call (ok__law_lowest T) (hr.mono (by decide)) rfl T.g__law_lowest T.kp__law_lowest T.b__law_lowest .nil pE (pa_cons (pe_ix ix_tup (pv 0) pe_int (fun _ _ => rfl)) (pa_cons (pe_op op_mulM (pe_ix ix_tup (pv 0) pe_int (fun _ _ => rfl)) (pv 1)) pa_nil))) (nomark _)))))))))))), read__law_whole_right T.kf T.in_Ratio h⟩
theorem ok__law_right (T : Txt K mg a x) : FnOk P w K mg base (L2.CX P w) 13 x.f__law_right x.d__law_right ["_law_bag_here"] (sp__law_right K a) := by
  refine T.F__law_right.okX sc__law_right (fun vs H Q E h => by first | (obtain ⟨_, rfl, _⟩ := h; rfl) | (obtain ⟨_, _, rfl, _⟩ := h; rfl) | (obtain ⟨_, _, _, rfl, _⟩ := h; rfl) | (obtain ⟨_, _, _, _, rfl, _⟩ := h; rfl) | (obtain ⟨_, _, _, _, _, rfl, _⟩ := h; rfl) | (obtain ⟨_, _, _, _, _, _, rfl, _⟩ := h; rfl) | (obtain ⟨_, _, _, _, _, _, _, rfl, _⟩ := h; rfl)) (fun cdv A outer s H vs Q E hr h => ?_)
  have pE : Passes (L2.CX P w) (cxOf (L2.CX P w) P w K mg base nm__law_right "_law_right" (defScope st__law_right) x.f__law_right cdv A outer s H E) E := passes_call (takes_of rfl rfl rfl rfl) fun _ _ _ _ h => h
  have pO : PassesOwn (model P w) (cxOf (L2.CX P w) P w K mg base nm__law_right "_law_right" (defScope st__law_right) x.f__law_right cdv A outer s H E).A (cxOf (L2.CX P w) P w K mg base nm__law_right "_law_right" (defScope st__law_right) x.f__law_right cdv A outer s H E).env (cxOf (L2.CX P w) P w K mg base nm__law_right "_law_right" (defScope st__law_right) x.f__law_right cdv A outer s H E).xe := passes_of rfl
  exact ⟨rd__law_right K a E, ((pss_cons (ps_for pO rfl (pi_range1 (by rfl) T.n_range (pa_cons pe_int pa_nil)) (pg_name (i := 1) sc__law_right.nd rfl (by first | exact Or.inl rfl | exact Or.inr rfl)) (pss_cons (ps_par (i := 2) (j := 3) rfl sc__law_right.nd rfl rfl (by decide) rfl rfl (pa_cons (pe_call (ok__law_pair T) (hr.mono (by decide)) rfl T.g__law_pair T.kp__law_pair T.b__law_pair .nil pE (pa_cons (pv 0) pa_nil)) (pa_cons (pe_call (ok__law_pair T) (hr.mono (by decide)) rfl T.g__law_pair T.kp__law_pair T.b__law_pair .nil pE (pa_cons (pv 0) pa_nil)) pa_nil)) (by rfl))
  (pss_one (ps_if (PW.pt (pw_or (pt_not (pt_val (pe_call (ok__law_pair_right T) (hr.mono (by decide)) rfl T.g__law_pair_right T.kp__law_pair_right T.b__law_pair_right .nil pE (pa_cons (pv 2) (pa_cons (pv 3) pa_nil))))) (pw_or1 (pt_not (pt_val (pe_call (ok__law_whole_right T) (hr.mono (by decide)) rfl T.g__law_whole_right T.kp__law_whole_right T.b__law_whole_right .nil pE (pa_cons (pv 2) (pa_cons (pe_ix ix_tup (pv 3) pe_int (fun _ _ => rfl)) pa_nil)))))))) (pss_one (ps_ret pe_bl)) pss_nil))))
  (pss_one (ps_ret pe_bl)))), read__law_right  h⟩
theorem ok_law (T : Txt K mg a x) : FnOk P w K mg base (L2.CX P w) 15 x.f_law x.d_law ["_law_cells"] (sp_law K a) := by
  refine T.F_law.okX sc_law (fun vs H Q E h => by first | (obtain ⟨_, rfl, _⟩ := h; rfl) | (obtain ⟨_, _, rfl, _⟩ := h; rfl) | (obtain ⟨_, _, _, rfl, _⟩ := h; rfl) | (obtain ⟨_, _, _, _, rfl, _⟩ := h; rfl) | (obtain ⟨_, _, _, _, _, rfl, _⟩ := h; rfl) | (obtain ⟨_, _, _, _, _, _, rfl, _⟩ := h; rfl) | (obtain ⟨_, _, _, _, _, _, _, rfl, _⟩ := h; rfl)) (fun cdv A outer s H vs Q E hr h => ?_)
  have pE : Passes (L2.CX P w) (cxOf (L2.CX P w) P w K mg base nm_law "law" (defScope st_law) x.f_law cdv A outer s H E) E := passes_call (takes_of rfl rfl rfl rfl) fun _ _ _ _ h => h
  have pO : PassesOwn (model P w) (cxOf (L2.CX P w) P w K mg base nm_law "law" (defScope st_law) x.f_law cdv A outer s H E).A (cxOf (L2.CX P w) P w K mg base nm_law "law" (defScope st_law) x.f_law cdv A outer s H E).env (cxOf (L2.CX P w) P w K mg base nm_law "law" (defScope st_law) x.f_law cdv A outer s H E).xe := passes_of rfl
  exact ⟨rd_law K a E, ((pss_cons (ps_set (i := 1) sc_law.nd rfl (by first | exact Or.inl rfl | exact Or.inr rfl) (pe_make T.mk_Ratio (ok_Ratio___init__ T) (hr.mono (by decide)) rfl T.g_Ratio T.b_Ratio___init__ .nil pE (pa_cons pe_int (pa_cons pe_int pa_nil))))
  (pss_cons (ps_if (pt_cmpR (op_neD hr.units) (pe_lst (pa_cons (pe_fldC T.cl_Ratio T.na_Ratio_top (pv 1)) (pa_cons (pe_fldC T.cl_Ratio T.na_Ratio_bottom (pv 1)) (pa_cons (pe_fldC T.cl_Ratio T.na_Ratio_bottom (pe_make T.mk_Ratio (ok_Ratio___init__ T) (hr.mono (by decide)) rfl T.g_Ratio T.b_Ratio___init__ .nil pE (pa_cons pe_int (pa_cons pe_int pa_nil)))) (pa_cons (pe_cmpR (op_eqOwn T.o_Ratio_eq (ok_Ratio___eq__ T) (hr.mono (by decide)) T.b_Ratio___eq__ pE) (pe_make T.mk_Ratio (ok_Ratio___init__ T) (hr.mono (by decide)) rfl T.g_Ratio (T.bd_Ratio___init___1).choose_spec.2 (T.bd_Ratio___init___1).choose_spec.1 pE (pa_cons pe_int pa_nil)) pe_bl (nomark _)) (pa_cons (pe_cmpR (op_eqOwn T.o_Ratio_eq (ok_Ratio___eq__ T) (hr.mono (by decide)) T.b_Ratio___eq__ pE) (pe_make T.mk_Ratio (ok_Ratio___init__ T) (hr.mono (by decide)) rfl T.g_Ratio T.b_Ratio___init__ .nil pE (pa_cons pe_int (pa_cons pe_int pa_nil))) pe_int (nomark _)) pa_nil)))))) (pe_lst (pa_cons pe_int (pa_cons pe_int (pa_cons pe_int (pa_cons pe_bl (pa_cons pe_bl pa_nil)))))) (nomark _)) (pss_one (ps_ret pe_bl)) pss_nil)
  (pss_one (ps_ret (pe_callB (cr_all rfl) (by rfl) T.n_all (by decide +kernel) (pa_cons (pe_lc (own := [("_law_k", 2)]) rfl sc_law.nd (pi_range1 (by rfl) T.n_range (pa_cons (pe_callB (call_max2X rfl) (by rfl) T.n_max (by decide +kernel) (pa_cons pe_int (pa_cons (pe_callB (call_min2X rfl) (by rfl) T.n_min (by decide +kernel) (pa_cons (pe_callB call_lenX (by rfl) T.n_len (by decide +kernel) (pa_cons (pv 0) pa_nil)) (pa_cons pe_int pa_nil))) pa_nil))) pa_nil)) (blkOk_by (own := [("_law_k", 2)]) (N := nm_law) (sc := defScope st_law) (by decide +kernel)) (fun _ _ _ _ _ => (pg_name (i := 2) sc_law.nd rfl (by first | exact Or.inl rfl | exact Or.inr rfl))) (fun _ _ _ _ _ => pts_nil) (fun _ _ _ _ _ => (pe_call (ok__law_right T) (hr.mono (by decide)) rfl T.g__law_right T.kp__law_right T.b__law_right .nil passL (pa_cons (pe_call (ok__law_bag T) (hr.mono (by decide)) rfl T.g__law_bag T.kp__law_bag T.b__law_bag .nil passL (pa_cons (pv 0) (pa_cons (pv 2) pa_nil))) pa_nil)))) pa_nil))))))), read_law T.kf T.in_Ratio h⟩
end
/-! ### what the top has written, gathered -/
theorem all_mk {l : PySem.W.OpenLaw} {w : World} {K : PySem.W.Frag} {h : Heap} {mg : Str → Option Value} {fa : Addr} (X : K.In h) (G : h.Ns mainGlobals mg) (hfa : mg "law" = some (.ref fa))
    {C_Ratio : Addr}
    {f_is_integer : Addr} {od_is_integer an_is_integer : Option Addr} {sl_is_integer : Array (Option Value)} {oc_is_integer kV_is_integer dc_is_integer pm_is_integer cd_is_integer ct_is_integer : Value}
    {f_shared_factor : Addr} {od_shared_factor an_shared_factor : Option Addr} {sl_shared_factor : Array (Option Value)} {oc_shared_factor kV_shared_factor dc_shared_factor pm_shared_factor cd_shared_factor ct_shared_factor : Value}
    {f_Ratio___init__ : Addr} {od_Ratio___init__ an_Ratio___init__ : Option Addr} {sl_Ratio___init__ : Array (Option Value)} {oc_Ratio___init__ kV_Ratio___init__ dc_Ratio___init__ pm_Ratio___init__ cd_Ratio___init__ ct_Ratio___init__ : Value}
    {dt_Ratio___init__ : Addr} {to_Ratio___init__ : Value} {td_Ratio___init__ : Option Addr} {tn_Ratio___init__ : Nat} {ts_Ratio___init__ : Array (Option Value)} {tv_Ratio___init__ : Array Value}
    {f_as_ratio : Addr} {od_as_ratio an_as_ratio : Option Addr} {sl_as_ratio : Array (Option Value)} {oc_as_ratio kV_as_ratio dc_as_ratio pm_as_ratio cd_as_ratio ct_as_ratio : Value}
    {f_is_fraction : Addr} {od_is_fraction an_is_fraction : Option Addr} {sl_is_fraction : Array (Option Value)} {oc_is_fraction kV_is_fraction dc_is_fraction pm_is_fraction cd_is_fraction ct_is_fraction : Value}
    {f_Ratio___eq__ : Addr} {od_Ratio___eq__ an_Ratio___eq__ : Option Addr} {sl_Ratio___eq__ : Array (Option Value)} {oc_Ratio___eq__ kV_Ratio___eq__ dc_Ratio___eq__ pm_Ratio___eq__ cd_Ratio___eq__ ct_Ratio___eq__ : Value}
    {f__law_bag : Addr} {od__law_bag an__law_bag : Option Addr} {sl__law_bag : Array (Option Value)} {oc__law_bag kV__law_bag dc__law_bag pm__law_bag cd__law_bag ct__law_bag : Value}
    {f__law_draw : Addr} {od__law_draw an__law_draw : Option Addr} {sl__law_draw : Array (Option Value)} {oc__law_draw kV__law_draw dc__law_draw pm__law_draw cd__law_draw ct__law_draw : Value}
    {f__law_one : Addr} {od__law_one an__law_one : Option Addr} {sl__law_one : Array (Option Value)} {oc__law_one kV__law_one dc__law_one pm__law_one cd__law_one ct__law_one : Value}
    {f__law_pair : Addr} {od__law_pair an__law_pair : Option Addr} {sl__law_pair : Array (Option Value)} {oc__law_pair kV__law_pair dc__law_pair pm__law_pair cd__law_pair ct__law_pair : Value}
    {f_Ratio___add__ : Addr} {od_Ratio___add__ an_Ratio___add__ : Option Addr} {sl_Ratio___add__ : Array (Option Value)} {oc_Ratio___add__ kV_Ratio___add__ dc_Ratio___add__ pm_Ratio___add__ cd_Ratio___add__ ct_Ratio___add__ : Value}
    {f_Ratio___mul__ : Addr} {od_Ratio___mul__ an_Ratio___mul__ : Option Addr} {sl_Ratio___mul__ : Array (Option Value)} {oc_Ratio___mul__ kV_Ratio___mul__ dc_Ratio___mul__ pm_Ratio___mul__ cd_Ratio___mul__ ct_Ratio___mul__ : Value}
    {f_Ratio___neg__ : Addr} {od_Ratio___neg__ an_Ratio___neg__ : Option Addr} {sl_Ratio___neg__ : Array (Option Value)} {oc_Ratio___neg__ kV_Ratio___neg__ dc_Ratio___neg__ pm_Ratio___neg__ cd_Ratio___neg__ ct_Ratio___neg__ : Value}
    {f_Ratio___sub__ : Addr} {od_Ratio___sub__ an_Ratio___sub__ : Option Addr} {sl_Ratio___sub__ : Array (Option Value)} {oc_Ratio___sub__ kV_Ratio___sub__ dc_Ratio___sub__ pm_Ratio___sub__ cd_Ratio___sub__ ct_Ratio___sub__ : Value}
    {f_compared : Addr} {od_compared an_compared : Option Addr} {sl_compared : Array (Option Value)} {oc_compared kV_compared dc_compared pm_compared cd_compared ct_compared : Value}
    {f_Ratio_compared : Addr} {od_Ratio_compared an_Ratio_compared : Option Addr} {sl_Ratio_compared : Array (Option Value)} {oc_Ratio_compared kV_Ratio_compared dc_Ratio_compared pm_Ratio_compared cd_Ratio_compared ct_Ratio_compared : Value}
    {f_Ratio_over : Addr} {od_Ratio_over an_Ratio_over : Option Addr} {sl_Ratio_over : Array (Option Value)} {oc_Ratio_over kV_Ratio_over dc_Ratio_over pm_Ratio_over cd_Ratio_over ct_Ratio_over : Value}
    {f__law_lowest : Addr} {od__law_lowest an__law_lowest : Option Addr} {sl__law_lowest : Array (Option Value)} {oc__law_lowest kV__law_lowest dc__law_lowest pm__law_lowest cd__law_lowest ct__law_lowest : Value}
    {f__law_parts : Addr} {od__law_parts an__law_parts : Option Addr} {sl__law_parts : Array (Option Value)} {oc__law_parts kV__law_parts dc__law_parts pm__law_parts cd__law_parts ct__law_parts : Value}
    {f__law_pair_right : Addr} {od__law_pair_right an__law_pair_right : Option Addr} {sl__law_pair_right : Array (Option Value)} {oc__law_pair_right kV__law_pair_right dc__law_pair_right pm__law_pair_right cd__law_pair_right ct__law_pair_right : Value}
    {f_Ratio___radd__ : Addr} {od_Ratio___radd__ an_Ratio___radd__ : Option Addr} {sl_Ratio___radd__ : Array (Option Value)} {oc_Ratio___radd__ kV_Ratio___radd__ dc_Ratio___radd__ pm_Ratio___radd__ cd_Ratio___radd__ ct_Ratio___radd__ : Value}
    {f_Ratio___rmul__ : Addr} {od_Ratio___rmul__ an_Ratio___rmul__ : Option Addr} {sl_Ratio___rmul__ : Array (Option Value)} {oc_Ratio___rmul__ kV_Ratio___rmul__ dc_Ratio___rmul__ pm_Ratio___rmul__ cd_Ratio___rmul__ ct_Ratio___rmul__ : Value}
    {f_Ratio___rsub__ : Addr} {od_Ratio___rsub__ an_Ratio___rsub__ : Option Addr} {sl_Ratio___rsub__ : Array (Option Value)} {oc_Ratio___rsub__ kV_Ratio___rsub__ dc_Ratio___rsub__ pm_Ratio___rsub__ cd_Ratio___rsub__ ct_Ratio___rsub__ : Value}
    {f__law_whole_right : Addr} {od__law_whole_right an__law_whole_right : Option Addr} {sl__law_whole_right : Array (Option Value)} {oc__law_whole_right kV__law_whole_right dc__law_whole_right pm__law_whole_right cd__law_whole_right ct__law_whole_right : Value}
    {f__law_right : Addr} {od__law_right an__law_right : Option Addr} {sl__law_right : Array (Option Value)} {oc__law_right kV__law_right dc__law_right pm__law_right cd__law_right ct__law_right : Value}
    {f_law : Addr} {od_law an_law : Option Addr} {sl_law : Array (Option Value)} {oc_law kV_law dc_law pm_law cd_law ct_law : Value}
    {fo_Ratio_add ro_Ratio_add : Option Value}
    {fo_Ratio_mul ro_Ratio_mul : Option Value}
    {fo_Ratio_sub ro_Ratio_sub : Option Value}
    (aC_Ratio : PySem.W.nsIn K mainGlobals "Ratio" = some (some (.ref C_Ratio)))
    (a_is_integer : PySem.W.nsIn K mainGlobals "is_integer" = some (some (.ref f_is_integer)))
    (l_is_integer : K.lookup f_is_integer = some ⟨oc_is_integer, od_is_integer, .func (PySem.W.fnOf "is_integer" "is_integer" (defArgs st_is_integer) (defBody st_is_integer) (defScope st_is_integer) .none kV_is_integer dc_is_integer pm_is_integer an_is_integer cd_is_integer ct_is_integer), sl_is_integer⟩)
    (c_is_integer : PySem.W.codeIn K cd_is_integer "is_integer" = true)
    (k_is_integer : PySem.W.keepIn K (.ref f_is_integer) = true)
    (a_shared_factor : PySem.W.nsIn K mainGlobals "shared_factor" = some (some (.ref f_shared_factor)))
    (l_shared_factor : K.lookup f_shared_factor = some ⟨oc_shared_factor, od_shared_factor, .func (PySem.W.fnOf "shared_factor" "shared_factor" (defArgs st_shared_factor) (defBody st_shared_factor) (defScope st_shared_factor) .none kV_shared_factor dc_shared_factor pm_shared_factor an_shared_factor cd_shared_factor ct_shared_factor), sl_shared_factor⟩)
    (c_shared_factor : PySem.W.codeIn K cd_shared_factor "shared_factor" = true)
    (k_shared_factor : PySem.W.keepIn K (.ref f_shared_factor) = true)
    (a_Ratio___init__ : PySem.W.findIn K (.ref C_Ratio) "__init__" = some (some (.ref f_Ratio___init__)))
    (i_Ratio___init__ : PySem.W.isFn K (.ref f_Ratio___init__) = true)
    (l_Ratio___init__ : K.lookup f_Ratio___init__ = some ⟨oc_Ratio___init__, od_Ratio___init__, .func (PySem.W.fnOf "__init__" "Ratio.__init__" (defArgs st_Ratio___init__) (defBody st_Ratio___init__) (defScope st_Ratio___init__) (.ref dt_Ratio___init__) kV_Ratio___init__ dc_Ratio___init__ pm_Ratio___init__ an_Ratio___init__ cd_Ratio___init__ ct_Ratio___init__), sl_Ratio___init__⟩)
    (c_Ratio___init__ : PySem.W.codeIn K cd_Ratio___init__ "Ratio.__init__" = true)
    (k_Ratio___init__ : PySem.W.keepIn K (.ref f_Ratio___init__) = true)
    (t_Ratio___init__ : K.lookup dt_Ratio___init__ = some ⟨to_Ratio___init__, td_Ratio___init__, .seq tv_Ratio___init__ tn_Ratio___init__, ts_Ratio___init__⟩)
    (u_Ratio___init__ : Vals [.int 1] tv_Ratio___init__.toList)
    (a_as_ratio : PySem.W.nsIn K mainGlobals "as_ratio" = some (some (.ref f_as_ratio)))
    (l_as_ratio : K.lookup f_as_ratio = some ⟨oc_as_ratio, od_as_ratio, .func (PySem.W.fnOf "as_ratio" "as_ratio" (defArgs st_as_ratio) (defBody st_as_ratio) (defScope st_as_ratio) .none kV_as_ratio dc_as_ratio pm_as_ratio an_as_ratio cd_as_ratio ct_as_ratio), sl_as_ratio⟩)
    (c_as_ratio : PySem.W.codeIn K cd_as_ratio "as_ratio" = true)
    (k_as_ratio : PySem.W.keepIn K (.ref f_as_ratio) = true)
    (a_is_fraction : PySem.W.nsIn K mainGlobals "is_fraction" = some (some (.ref f_is_fraction)))
    (l_is_fraction : K.lookup f_is_fraction = some ⟨oc_is_fraction, od_is_fraction, .func (PySem.W.fnOf "is_fraction" "is_fraction" (defArgs st_is_fraction) (defBody st_is_fraction) (defScope st_is_fraction) .none kV_is_fraction dc_is_fraction pm_is_fraction an_is_fraction cd_is_fraction ct_is_fraction), sl_is_fraction⟩)
    (c_is_fraction : PySem.W.codeIn K cd_is_fraction "is_fraction" = true)
    (k_is_fraction : PySem.W.keepIn K (.ref f_is_fraction) = true)
    (a_Ratio___eq__ : PySem.W.findIn K (.ref C_Ratio) "__eq__" = some (some (.ref f_Ratio___eq__)))
    (i_Ratio___eq__ : PySem.W.isFn K (.ref f_Ratio___eq__) = true)
    (l_Ratio___eq__ : K.lookup f_Ratio___eq__ = some ⟨oc_Ratio___eq__, od_Ratio___eq__, .func (PySem.W.fnOf "__eq__" "Ratio.__eq__" (defArgs st_Ratio___eq__) (defBody st_Ratio___eq__) (defScope st_Ratio___eq__) .none kV_Ratio___eq__ dc_Ratio___eq__ pm_Ratio___eq__ an_Ratio___eq__ cd_Ratio___eq__ ct_Ratio___eq__), sl_Ratio___eq__⟩)
    (c_Ratio___eq__ : PySem.W.codeIn K cd_Ratio___eq__ "Ratio.__eq__" = true)
    (k_Ratio___eq__ : PySem.W.keepIn K (.ref f_Ratio___eq__) = true)
    (a__law_bag : PySem.W.nsIn K mainGlobals "_law_bag" = some (some (.ref f__law_bag)))
    (l__law_bag : K.lookup f__law_bag = some ⟨oc__law_bag, od__law_bag, .func (PySem.W.fnOf "_law_bag" "_law_bag" (defArgs st__law_bag) (defBody st__law_bag) (defScope st__law_bag) .none kV__law_bag dc__law_bag pm__law_bag an__law_bag cd__law_bag ct__law_bag), sl__law_bag⟩)
    (c__law_bag : PySem.W.codeIn K cd__law_bag "_law_bag" = true)
    (k__law_bag : PySem.W.keepIn K (.ref f__law_bag) = true)
    (a__law_draw : PySem.W.nsIn K mainGlobals "_law_draw" = some (some (.ref f__law_draw)))
    (l__law_draw : K.lookup f__law_draw = some ⟨oc__law_draw, od__law_draw, .func (PySem.W.fnOf "_law_draw" "_law_draw" (defArgs st__law_draw) (defBody st__law_draw) (defScope st__law_draw) .none kV__law_draw dc__law_draw pm__law_draw an__law_draw cd__law_draw ct__law_draw), sl__law_draw⟩)
    (c__law_draw : PySem.W.codeIn K cd__law_draw "_law_draw" = true)
    (k__law_draw : PySem.W.keepIn K (.ref f__law_draw) = true)
    (a__law_one : PySem.W.nsIn K mainGlobals "_law_one" = some (some (.ref f__law_one)))
    (l__law_one : K.lookup f__law_one = some ⟨oc__law_one, od__law_one, .func (PySem.W.fnOf "_law_one" "_law_one" (defArgs st__law_one) (defBody st__law_one) (defScope st__law_one) .none kV__law_one dc__law_one pm__law_one an__law_one cd__law_one ct__law_one), sl__law_one⟩)
    (c__law_one : PySem.W.codeIn K cd__law_one "_law_one" = true)
    (k__law_one : PySem.W.keepIn K (.ref f__law_one) = true)
    (a__law_pair : PySem.W.nsIn K mainGlobals "_law_pair" = some (some (.ref f__law_pair)))
    (l__law_pair : K.lookup f__law_pair = some ⟨oc__law_pair, od__law_pair, .func (PySem.W.fnOf "_law_pair" "_law_pair" (defArgs st__law_pair) (defBody st__law_pair) (defScope st__law_pair) .none kV__law_pair dc__law_pair pm__law_pair an__law_pair cd__law_pair ct__law_pair), sl__law_pair⟩)
    (c__law_pair : PySem.W.codeIn K cd__law_pair "_law_pair" = true)
    (k__law_pair : PySem.W.keepIn K (.ref f__law_pair) = true)
    (a_Ratio___add__ : PySem.W.findIn K (.ref C_Ratio) "__add__" = some (some (.ref f_Ratio___add__)))
    (i_Ratio___add__ : PySem.W.isFn K (.ref f_Ratio___add__) = true)
    (l_Ratio___add__ : K.lookup f_Ratio___add__ = some ⟨oc_Ratio___add__, od_Ratio___add__, .func (PySem.W.fnOf "__add__" "Ratio.__add__" (defArgs st_Ratio___add__) (defBody st_Ratio___add__) (defScope st_Ratio___add__) .none kV_Ratio___add__ dc_Ratio___add__ pm_Ratio___add__ an_Ratio___add__ cd_Ratio___add__ ct_Ratio___add__), sl_Ratio___add__⟩)
    (c_Ratio___add__ : PySem.W.codeIn K cd_Ratio___add__ "Ratio.__add__" = true)
    (k_Ratio___add__ : PySem.W.keepIn K (.ref f_Ratio___add__) = true)
    (a_Ratio___mul__ : PySem.W.findIn K (.ref C_Ratio) "__mul__" = some (some (.ref f_Ratio___mul__)))
    (i_Ratio___mul__ : PySem.W.isFn K (.ref f_Ratio___mul__) = true)
    (l_Ratio___mul__ : K.lookup f_Ratio___mul__ = some ⟨oc_Ratio___mul__, od_Ratio___mul__, .func (PySem.W.fnOf "__mul__" "Ratio.__mul__" (defArgs st_Ratio___mul__) (defBody st_Ratio___mul__) (defScope st_Ratio___mul__) .none kV_Ratio___mul__ dc_Ratio___mul__ pm_Ratio___mul__ an_Ratio___mul__ cd_Ratio___mul__ ct_Ratio___mul__), sl_Ratio___mul__⟩)
    (c_Ratio___mul__ : PySem.W.codeIn K cd_Ratio___mul__ "Ratio.__mul__" = true)
    (k_Ratio___mul__ : PySem.W.keepIn K (.ref f_Ratio___mul__) = true)
    (a_Ratio___neg__ : PySem.W.findIn K (.ref C_Ratio) "__neg__" = some (some (.ref f_Ratio___neg__)))
    (i_Ratio___neg__ : PySem.W.isFn K (.ref f_Ratio___neg__) = true)
    (l_Ratio___neg__ : K.lookup f_Ratio___neg__ = some ⟨oc_Ratio___neg__, od_Ratio___neg__, .func (PySem.W.fnOf "__neg__" "Ratio.__neg__" (defArgs st_Ratio___neg__) (defBody st_Ratio___neg__) (defScope st_Ratio___neg__) .none kV_Ratio___neg__ dc_Ratio___neg__ pm_Ratio___neg__ an_Ratio___neg__ cd_Ratio___neg__ ct_Ratio___neg__), sl_Ratio___neg__⟩)
    (c_Ratio___neg__ : PySem.W.codeIn K cd_Ratio___neg__ "Ratio.__neg__" = true)
    (k_Ratio___neg__ : PySem.W.keepIn K (.ref f_Ratio___neg__) = true)
    (a_Ratio___sub__ : PySem.W.findIn K (.ref C_Ratio) "__sub__" = some (some (.ref f_Ratio___sub__)))
    (i_Ratio___sub__ : PySem.W.isFn K (.ref f_Ratio___sub__) = true)
    (l_Ratio___sub__ : K.lookup f_Ratio___sub__ = some ⟨oc_Ratio___sub__, od_Ratio___sub__, .func (PySem.W.fnOf "__sub__" "Ratio.__sub__" (defArgs st_Ratio___sub__) (defBody st_Ratio___sub__) (defScope st_Ratio___sub__) .none kV_Ratio___sub__ dc_Ratio___sub__ pm_Ratio___sub__ an_Ratio___sub__ cd_Ratio___sub__ ct_Ratio___sub__), sl_Ratio___sub__⟩)
    (c_Ratio___sub__ : PySem.W.codeIn K cd_Ratio___sub__ "Ratio.__sub__" = true)
    (k_Ratio___sub__ : PySem.W.keepIn K (.ref f_Ratio___sub__) = true)
    (a_compared : PySem.W.nsIn K mainGlobals "compared" = some (some (.ref f_compared)))
    (l_compared : K.lookup f_compared = some ⟨oc_compared, od_compared, .func (PySem.W.fnOf "compared" "compared" (defArgs st_compared) (defBody st_compared) (defScope st_compared) .none kV_compared dc_compared pm_compared an_compared cd_compared ct_compared), sl_compared⟩)
    (c_compared : PySem.W.codeIn K cd_compared "compared" = true)
    (k_compared : PySem.W.keepIn K (.ref f_compared) = true)
    (a_Ratio_compared : PySem.W.findIn K (.ref C_Ratio) "compared" = some (some (.ref f_Ratio_compared)))
    (i_Ratio_compared : PySem.W.isFn K (.ref f_Ratio_compared) = true)
    (l_Ratio_compared : K.lookup f_Ratio_compared = some ⟨oc_Ratio_compared, od_Ratio_compared, .func (PySem.W.fnOf "compared" "Ratio.compared" (defArgs st_Ratio_compared) (defBody st_Ratio_compared) (defScope st_Ratio_compared) .none kV_Ratio_compared dc_Ratio_compared pm_Ratio_compared an_Ratio_compared cd_Ratio_compared ct_Ratio_compared), sl_Ratio_compared⟩)
    (c_Ratio_compared : PySem.W.codeIn K cd_Ratio_compared "Ratio.compared" = true)
    (k_Ratio_compared : PySem.W.keepIn K (.ref f_Ratio_compared) = true)
    (a_Ratio_over : PySem.W.findIn K (.ref C_Ratio) "over" = some (some (.ref f_Ratio_over)))
    (i_Ratio_over : PySem.W.isFn K (.ref f_Ratio_over) = true)
    (l_Ratio_over : K.lookup f_Ratio_over = some ⟨oc_Ratio_over, od_Ratio_over, .func (PySem.W.fnOf "over" "Ratio.over" (defArgs st_Ratio_over) (defBody st_Ratio_over) (defScope st_Ratio_over) .none kV_Ratio_over dc_Ratio_over pm_Ratio_over an_Ratio_over cd_Ratio_over ct_Ratio_over), sl_Ratio_over⟩)
    (c_Ratio_over : PySem.W.codeIn K cd_Ratio_over "Ratio.over" = true)
    (k_Ratio_over : PySem.W.keepIn K (.ref f_Ratio_over) = true)
    (a__law_lowest : PySem.W.nsIn K mainGlobals "_law_lowest" = some (some (.ref f__law_lowest)))
    (l__law_lowest : K.lookup f__law_lowest = some ⟨oc__law_lowest, od__law_lowest, .func (PySem.W.fnOf "_law_lowest" "_law_lowest" (defArgs st__law_lowest) (defBody st__law_lowest) (defScope st__law_lowest) .none kV__law_lowest dc__law_lowest pm__law_lowest an__law_lowest cd__law_lowest ct__law_lowest), sl__law_lowest⟩)
    (c__law_lowest : PySem.W.codeIn K cd__law_lowest "_law_lowest" = true)
    (k__law_lowest : PySem.W.keepIn K (.ref f__law_lowest) = true)
    (a__law_parts : PySem.W.nsIn K mainGlobals "_law_parts" = some (some (.ref f__law_parts)))
    (l__law_parts : K.lookup f__law_parts = some ⟨oc__law_parts, od__law_parts, .func (PySem.W.fnOf "_law_parts" "_law_parts" (defArgs st__law_parts) (defBody st__law_parts) (defScope st__law_parts) .none kV__law_parts dc__law_parts pm__law_parts an__law_parts cd__law_parts ct__law_parts), sl__law_parts⟩)
    (c__law_parts : PySem.W.codeIn K cd__law_parts "_law_parts" = true)
    (k__law_parts : PySem.W.keepIn K (.ref f__law_parts) = true)
    (a__law_pair_right : PySem.W.nsIn K mainGlobals "_law_pair_right" = some (some (.ref f__law_pair_right)))
    (l__law_pair_right : K.lookup f__law_pair_right = some ⟨oc__law_pair_right, od__law_pair_right, .func (PySem.W.fnOf "_law_pair_right" "_law_pair_right" (defArgs st__law_pair_right) (defBody st__law_pair_right) (defScope st__law_pair_right) .none kV__law_pair_right dc__law_pair_right pm__law_pair_right an__law_pair_right cd__law_pair_right ct__law_pair_right), sl__law_pair_right⟩)
    (c__law_pair_right : PySem.W.codeIn K cd__law_pair_right "_law_pair_right" = true)
    (k__law_pair_right : PySem.W.keepIn K (.ref f__law_pair_right) = true)
    (a_Ratio___radd__ : PySem.W.findIn K (.ref C_Ratio) "__radd__" = some (some (.ref f_Ratio___radd__)))
    (i_Ratio___radd__ : PySem.W.isFn K (.ref f_Ratio___radd__) = true)
    (l_Ratio___radd__ : K.lookup f_Ratio___radd__ = some ⟨oc_Ratio___radd__, od_Ratio___radd__, .func (PySem.W.fnOf "__radd__" "Ratio.__radd__" (defArgs st_Ratio___radd__) (defBody st_Ratio___radd__) (defScope st_Ratio___radd__) .none kV_Ratio___radd__ dc_Ratio___radd__ pm_Ratio___radd__ an_Ratio___radd__ cd_Ratio___radd__ ct_Ratio___radd__), sl_Ratio___radd__⟩)
    (c_Ratio___radd__ : PySem.W.codeIn K cd_Ratio___radd__ "Ratio.__radd__" = true)
    (k_Ratio___radd__ : PySem.W.keepIn K (.ref f_Ratio___radd__) = true)
    (a_Ratio___rmul__ : PySem.W.findIn K (.ref C_Ratio) "__rmul__" = some (some (.ref f_Ratio___rmul__)))
    (i_Ratio___rmul__ : PySem.W.isFn K (.ref f_Ratio___rmul__) = true)
    (l_Ratio___rmul__ : K.lookup f_Ratio___rmul__ = some ⟨oc_Ratio___rmul__, od_Ratio___rmul__, .func (PySem.W.fnOf "__rmul__" "Ratio.__rmul__" (defArgs st_Ratio___rmul__) (defBody st_Ratio___rmul__) (defScope st_Ratio___rmul__) .none kV_Ratio___rmul__ dc_Ratio___rmul__ pm_Ratio___rmul__ an_Ratio___rmul__ cd_Ratio___rmul__ ct_Ratio___rmul__), sl_Ratio___rmul__⟩)
    (c_Ratio___rmul__ : PySem.W.codeIn K cd_Ratio___rmul__ "Ratio.__rmul__" = true)
    (k_Ratio___rmul__ : PySem.W.keepIn K (.ref f_Ratio___rmul__) = true)
    (a_Ratio___rsub__ : PySem.W.findIn K (.ref C_Ratio) "__rsub__" = some (some (.ref f_Ratio___rsub__)))
    (i_Ratio___rsub__ : PySem.W.isFn K (.ref f_Ratio___rsub__) = true)
    (l_Ratio___rsub__ : K.lookup f_Ratio___rsub__ = some ⟨oc_Ratio___rsub__, od_Ratio___rsub__, .func (PySem.W.fnOf "__rsub__" "Ratio.__rsub__" (defArgs st_Ratio___rsub__) (defBody st_Ratio___rsub__) (defScope st_Ratio___rsub__) .none kV_Ratio___rsub__ dc_Ratio___rsub__ pm_Ratio___rsub__ an_Ratio___rsub__ cd_Ratio___rsub__ ct_Ratio___rsub__), sl_Ratio___rsub__⟩)
    (c_Ratio___rsub__ : PySem.W.codeIn K cd_Ratio___rsub__ "Ratio.__rsub__" = true)
    (k_Ratio___rsub__ : PySem.W.keepIn K (.ref f_Ratio___rsub__) = true)
    (a__law_whole_right : PySem.W.nsIn K mainGlobals "_law_whole_right" = some (some (.ref f__law_whole_right)))
    (l__law_whole_right : K.lookup f__law_whole_right = some ⟨oc__law_whole_right, od__law_whole_right, .func (PySem.W.fnOf "_law_whole_right" "_law_whole_right" (defArgs st__law_whole_right) (defBody st__law_whole_right) (defScope st__law_whole_right) .none kV__law_whole_right dc__law_whole_right pm__law_whole_right an__law_whole_right cd__law_whole_right ct__law_whole_right), sl__law_whole_right⟩)
    (c__law_whole_right : PySem.W.codeIn K cd__law_whole_right "_law_whole_right" = true)
    (k__law_whole_right : PySem.W.keepIn K (.ref f__law_whole_right) = true)
    (a__law_right : PySem.W.nsIn K mainGlobals "_law_right" = some (some (.ref f__law_right)))
    (l__law_right : K.lookup f__law_right = some ⟨oc__law_right, od__law_right, .func (PySem.W.fnOf "_law_right" "_law_right" (defArgs st__law_right) (defBody st__law_right) (defScope st__law_right) .none kV__law_right dc__law_right pm__law_right an__law_right cd__law_right ct__law_right), sl__law_right⟩)
    (c__law_right : PySem.W.codeIn K cd__law_right "_law_right" = true)
    (k__law_right : PySem.W.keepIn K (.ref f__law_right) = true)
    (a_law : PySem.W.nsIn K mainGlobals "law" = some (some (.ref f_law)))
    (l_law : K.lookup f_law = some ⟨oc_law, od_law, .func (PySem.W.fnOf "law" "law" (defArgs st_law) (defBody st_law) (defScope st_law) .none kV_law dc_law pm_law an_law cd_law ct_law), sl_law⟩)
    (c_law : PySem.W.codeIn K cd_law "law" = true)
    (k_law : PySem.W.keepIn K (.ref f_law) = true)
    (ag_compared_ratios : PySem.W.nsIn K mainGlobals "compared_ratios" = some (some (.ref f_compared)))
    (z_abs : PySem.W.nsIn K mainGlobals "abs" = some none)
    (z_all : PySem.W.nsIn K mainGlobals "all" = some none)
    (z_bool : PySem.W.nsIn K mainGlobals "bool" = some none)
    (z_int : PySem.W.nsIn K mainGlobals "int" = some none)
    (z_isinstance : PySem.W.nsIn K mainGlobals "isinstance" = some none)
    (z_len : PySem.W.nsIn K mainGlobals "len" = some none)
    (z_max : PySem.W.nsIn K mainGlobals "max" = some none)
    (z_min : PySem.W.nsIn K mainGlobals "min" = some none)
    (z_range : PySem.W.nsIn K mainGlobals "range" = some none)
    (pg_Ratio : PySem.W.plainGet K C_Ratio Str.empty = true)
    (hd_Ratio : PySem.W.hasDictIn K C_Ratio = true)
    (po_Ratio : PySem.W.plainOver K C_Ratio = true)
    (sa_Ratio : PySem.W.findIn K (.ref C_Ratio) "__setattr__" = some (some (.builtin "object.__setattr__")))
    (mk_Ratio : PySem.W.makesIn K C_Ratio = true)
    (kc_Ratio : PySem.W.keepIn K (.ref C_Ratio) = true)
    (sf_Ratio : PySem.W.selfFirst K C_Ratio = true)
    (si_Ratio : PySem.W.subIn K (.type "int") (.ref C_Ratio) = some false)
    (sj_Ratio : PySem.W.subIn K (.ref C_Ratio) (.type "int") = some false)
    (ha_Ratio : PySem.W.findIn K (.ref C_Ratio) "__class__" = some (some (.builtin "object.__class__")))
    (hm_Ratio : PySem.W.mroIn K C_Ratio (.type "object") = some true)
    (kb_Ratio_int : PySem.W.kitOne K (.ref C_Ratio) (.type "int") = some false)
    (kb_Ratio_bool : PySem.W.kitOne K (.ref C_Ratio) (.type "bool") = some false)
    (kb_Ratio_str : PySem.W.kitOne K (.ref C_Ratio) (.type "str") = some false)
    (kb_Ratio_tuple : PySem.W.kitOne K (.ref C_Ratio) (.type "tuple") = some false)
    (kb_Ratio_list : PySem.W.kitOne K (.ref C_Ratio) (.type "list") = some false)
    (kb_Ratio_dict : PySem.W.kitOne K (.ref C_Ratio) (.type "dict") = some false)
    (kt_Ratio_NoneType : PySem.W.kitOne K (.type "NoneType") (.ref C_Ratio) = some false)
    (nf_Ratio_NoneType : PySem.W.notFirst K C_Ratio (.type "NoneType") = true)
    (kt_Ratio_bool : PySem.W.kitOne K (.type "bool") (.ref C_Ratio) = some false)
    (nf_Ratio_bool : PySem.W.notFirst K C_Ratio (.type "bool") = true)
    (kt_Ratio_int : PySem.W.kitOne K (.type "int") (.ref C_Ratio) = some false)
    (nf_Ratio_int : PySem.W.notFirst K C_Ratio (.type "int") = true)
    (kt_Ratio_str : PySem.W.kitOne K (.type "str") (.ref C_Ratio) = some false)
    (nf_Ratio_str : PySem.W.notFirst K C_Ratio (.type "str") = true)
    (kt_Ratio_list : PySem.W.kitOne K (.type "list") (.ref C_Ratio) = some false)
    (nf_Ratio_list : PySem.W.notFirst K C_Ratio (.type "list") = true)
    (kt_Ratio_tuple : PySem.W.kitOne K (.type "tuple") (.ref C_Ratio) = some false)
    (nf_Ratio_tuple : PySem.W.notFirst K C_Ratio (.type "tuple") = true)
    (kt_Ratio_dict : PySem.W.kitOne K (.type "dict") (.ref C_Ratio) = some false)
    (nf_Ratio_dict : PySem.W.notFirst K C_Ratio (.type "dict") = true)
    (nn_Ratio_Ratio : PySem.W.notFirst K C_Ratio (.ref C_Ratio) = true)
    (hn : PySem.W.specialIn K (.builtin "object.__class__") "__get__" = some (some (.builtin "getset_descriptor.__get__")))
    (ht : PySem.W.takesIn K (.builtin "object.__class__") = some true)
    (na_Ratio_bottom : PySem.W.findIn K (.ref C_Ratio) "bottom" = some none)
    (na_Ratio_top : PySem.W.findIn K (.ref C_Ratio) "top" = some none)
    (of_Ratio_add : PySem.W.findIn K (.ref C_Ratio) (PySem.dunder "add") = some (some (.ref f_Ratio___add__)))
    (i1_Ratio_add : PySem.W.findIn K (.type "int") (PySem.dunder "add") = some fo_Ratio_add)
    (i2_Ratio_add : PySem.W.findIn K (.type "int") (dunderR "add") = some ro_Ratio_add)
    (or_Ratio_add : PySem.W.findIn K (.ref C_Ratio) (dunderR "add") = some (some (.ref f_Ratio___radd__)))
    (fi_Ratio_add : ((fo_Ratio_add.isSome && !isSeqSlot fo_Ratio_add) || (ro_Ratio_add.isSome && !isSeqSlot ro_Ratio_add)) = true)
    (of_Ratio_mul : PySem.W.findIn K (.ref C_Ratio) (PySem.dunder "mul") = some (some (.ref f_Ratio___mul__)))
    (i1_Ratio_mul : PySem.W.findIn K (.type "int") (PySem.dunder "mul") = some fo_Ratio_mul)
    (i2_Ratio_mul : PySem.W.findIn K (.type "int") (dunderR "mul") = some ro_Ratio_mul)
    (or_Ratio_mul : PySem.W.findIn K (.ref C_Ratio) (dunderR "mul") = some (some (.ref f_Ratio___rmul__)))
    (fi_Ratio_mul : ((fo_Ratio_mul.isSome && !isSeqSlot fo_Ratio_mul) || (ro_Ratio_mul.isSome && !isSeqSlot ro_Ratio_mul)) = true)
    (of_Ratio_sub : PySem.W.findIn K (.ref C_Ratio) (PySem.dunder "sub") = some (some (.ref f_Ratio___sub__)))
    (i1_Ratio_sub : PySem.W.findIn K (.type "int") (PySem.dunder "sub") = some fo_Ratio_sub)
    (i2_Ratio_sub : PySem.W.findIn K (.type "int") (dunderR "sub") = some ro_Ratio_sub)
    (or_Ratio_sub : PySem.W.findIn K (.ref C_Ratio) (dunderR "sub") = some (some (.ref f_Ratio___rsub__)))
    (fi_Ratio_sub : ((fo_Ratio_sub.isSome && !isSeqSlot fo_Ratio_sub) || (ro_Ratio_sub.isSome && !isSeqSlot ro_Ratio_sub)) = true)
    (ne_Ratio : PySem.W.findIn K (.ref C_Ratio) "__ne__" = some (some (.builtin "object.__ne__")))
    (ob_Ratio : PySem.W.subIn K (.ref C_Ratio) (.type "object") = some true) :
    ∃ fd : FuncData, (∀ (s : Shared) (v : Value), BindsTo s fd ⟨[v], []⟩ [("_law_cells", v)]) ∧ ∀ base : Heap, K.In base → base.Ns mainGlobals mg → FnOk l.prog w K mg base (L2.CX l.prog w) 15 fa fd ["_law_cells"] (sp_law K ({} : Cl)) := by
  have e := hfa.symm.trans (PySem.W.mg_of X G a_law)
  cases e
  have F_is_integer := fun_mk (st := st_is_integer) l_is_integer c_is_integer k_is_integer
  have b_is_integer := F_is_integer.binds (ps := ["value"]) fun _ _ _ _ _ _ us hl => match us, hl with | [_], _ => rfl
  have F_shared_factor := fun_mk (st := st_shared_factor) l_shared_factor c_shared_factor k_shared_factor
  have b_shared_factor := F_shared_factor.binds (ps := ["one", "two"]) fun _ _ _ _ _ _ us hl => match us, hl with | [_, _], _ => rfl
  have F_Ratio___init__ : FunD K "__init__" "Ratio.__init__" (defArgs st_Ratio___init__) (defBody st_Ratio___init__) (defScope st_Ratio___init__) [.int 1] [] f_Ratio___init__ (PySem.W.fnOf "__init__" "Ratio.__init__" (defArgs st_Ratio___init__) (defBody st_Ratio___init__) (defScope st_Ratio___init__) (.ref dt_Ratio___init__) kV_Ratio___init__ dc_Ratio___init__ pm_Ratio___init__ an_Ratio___init__ cd_Ratio___init__ ct_Ratio___init__) := ⟨⟨oc_Ratio___init__, od_Ratio___init__, _, kV_Ratio___init__, dc_Ratio___init__, pm_Ratio___init__, an_Ratio___init__, cd_Ratio___init__, ct_Ratio___init__, sl_Ratio___init__, rfl, l_Ratio___init__, c_Ratio___init__, .inr ⟨by simp, dt_Ratio___init__, _, tv_Ratio___init__.toList, tn_Ratio___init__, rfl, t_Ratio___init__, rfl, u_Ratio___init__⟩, .inl rfl⟩, k_Ratio___init__⟩
  have b_Ratio___init__ : Binds K (PySem.W.fnOf "__init__" "Ratio.__init__" (defArgs st_Ratio___init__) (defBody st_Ratio___init__) (defScope st_Ratio___init__) (.ref dt_Ratio___init__) kV_Ratio___init__ dc_Ratio___init__ pm_Ratio___init__ an_Ratio___init__ cd_Ratio___init__ ct_Ratio___init__) ["self", "top", "bottom"] [] := FunD_all F_Ratio___init__ (by simp) fun T kV doc pm an cdv ct us its l1 l2 => match us, its, l1, l2 with | [_, _, _], [_], _, _ => ⟨_, rfl, rfl⟩
  have F_as_ratio := fun_mk (st := st_as_ratio) l_as_ratio c_as_ratio k_as_ratio
  have b_as_ratio := F_as_ratio.binds (ps := ["value"]) fun _ _ _ _ _ _ us hl => match us, hl with | [_], _ => rfl
  have F_is_fraction := fun_mk (st := st_is_fraction) l_is_fraction c_is_fraction k_is_fraction
  have b_is_fraction := F_is_fraction.binds (ps := ["value"]) fun _ _ _ _ _ _ us hl => match us, hl with | [_], _ => rfl
  have F_Ratio___eq__ := fun_mk (st := st_Ratio___eq__) l_Ratio___eq__ c_Ratio___eq__ k_Ratio___eq__
  have b_Ratio___eq__ := F_Ratio___eq__.binds (ps := ["self", "other"]) fun _ _ _ _ _ _ us hl => match us, hl with | [_, _], _ => rfl
  have F__law_bag := fun_mk (st := st__law_bag) l__law_bag c__law_bag k__law_bag
  have b__law_bag := F__law_bag.binds (ps := ["_law_cells", "_law_k"]) fun _ _ _ _ _ _ us hl => match us, hl with | [_, _], _ => rfl
  have F__law_draw := fun_mk (st := st__law_draw) l__law_draw c__law_draw k__law_draw
  have b__law_draw := F__law_draw.binds (ps := ["_law_bag_here", "_law_wide"]) fun _ _ _ _ _ _ us hl => match us, hl with | [_, _], _ => rfl
  have F__law_one := fun_mk (st := st__law_one) l__law_one c__law_one k__law_one
  have b__law_one := F__law_one.binds (ps := ["_law_bag_here", "_law_some"]) fun _ _ _ _ _ _ us hl => match us, hl with | [_, _], _ => rfl
  have F__law_pair := fun_mk (st := st__law_pair) l__law_pair c__law_pair k__law_pair
  have b__law_pair := F__law_pair.binds (ps := ["_law_bag_here"]) fun _ _ _ _ _ _ us hl => match us, hl with | [_], _ => rfl
  have F_Ratio___add__ := fun_mk (st := st_Ratio___add__) l_Ratio___add__ c_Ratio___add__ k_Ratio___add__
  have b_Ratio___add__ := F_Ratio___add__.binds (ps := ["self", "other"]) fun _ _ _ _ _ _ us hl => match us, hl with | [_, _], _ => rfl
  have F_Ratio___mul__ := fun_mk (st := st_Ratio___mul__) l_Ratio___mul__ c_Ratio___mul__ k_Ratio___mul__
  have b_Ratio___mul__ := F_Ratio___mul__.binds (ps := ["self", "other"]) fun _ _ _ _ _ _ us hl => match us, hl with | [_, _], _ => rfl
  have F_Ratio___neg__ := fun_mk (st := st_Ratio___neg__) l_Ratio___neg__ c_Ratio___neg__ k_Ratio___neg__
  have b_Ratio___neg__ := F_Ratio___neg__.binds (ps := ["self"]) fun _ _ _ _ _ _ us hl => match us, hl with | [_], _ => rfl
  have F_Ratio___sub__ := fun_mk (st := st_Ratio___sub__) l_Ratio___sub__ c_Ratio___sub__ k_Ratio___sub__
  have b_Ratio___sub__ := F_Ratio___sub__.binds (ps := ["self", "other"]) fun _ _ _ _ _ _ us hl => match us, hl with | [_, _], _ => rfl
  have F_compared := fun_mk (st := st_compared) l_compared c_compared k_compared
  have b_compared := F_compared.binds (ps := ["one", "other"]) fun _ _ _ _ _ _ us hl => match us, hl with | [_, _], _ => rfl
  have F_Ratio_compared := fun_mk (st := st_Ratio_compared) l_Ratio_compared c_Ratio_compared k_Ratio_compared
  have b_Ratio_compared := F_Ratio_compared.binds (ps := ["self", "other"]) fun _ _ _ _ _ _ us hl => match us, hl with | [_, _], _ => rfl
  have F_Ratio_over := fun_mk (st := st_Ratio_over) l_Ratio_over c_Ratio_over k_Ratio_over
  have b_Ratio_over := F_Ratio_over.binds (ps := ["self", "other"]) fun _ _ _ _ _ _ us hl => match us, hl with | [_, _], _ => rfl
  have F__law_lowest := fun_mk (st := st__law_lowest) l__law_lowest c__law_lowest k__law_lowest
  have b__law_lowest := F__law_lowest.binds (ps := ["_law_upper", "_law_lower"]) fun _ _ _ _ _ _ us hl => match us, hl with | [_, _], _ => rfl
  have F__law_parts := fun_mk (st := st__law_parts) l__law_parts c__law_parts k__law_parts
  have b__law_parts := F__law_parts.binds (ps := ["_law_made"]) fun _ _ _ _ _ _ us hl => match us, hl with | [_], _ => rfl
  have F__law_pair_right := fun_mk (st := st__law_pair_right) l__law_pair_right c__law_pair_right k__law_pair_right
  have b__law_pair_right := F__law_pair_right.binds (ps := ["_law_one_here", "_law_two"]) fun _ _ _ _ _ _ us hl => match us, hl with | [_, _], _ => rfl
  have F_Ratio___radd__ := fun_mk (st := st_Ratio___radd__) l_Ratio___radd__ c_Ratio___radd__ k_Ratio___radd__
  have b_Ratio___radd__ := F_Ratio___radd__.binds (ps := ["self", "other"]) fun _ _ _ _ _ _ us hl => match us, hl with | [_, _], _ => rfl
  have F_Ratio___rmul__ := fun_mk (st := st_Ratio___rmul__) l_Ratio___rmul__ c_Ratio___rmul__ k_Ratio___rmul__
  have b_Ratio___rmul__ := F_Ratio___rmul__.binds (ps := ["self", "other"]) fun _ _ _ _ _ _ us hl => match us, hl with | [_, _], _ => rfl
  have F_Ratio___rsub__ := fun_mk (st := st_Ratio___rsub__) l_Ratio___rsub__ c_Ratio___rsub__ k_Ratio___rsub__
  have b_Ratio___rsub__ := F_Ratio___rsub__.binds (ps := ["self", "other"]) fun _ _ _ _ _ _ us hl => match us, hl with | [_, _], _ => rfl
  have F__law_whole_right := fun_mk (st := st__law_whole_right) l__law_whole_right c__law_whole_right k__law_whole_right
  have b__law_whole_right := F__law_whole_right.binds (ps := ["_law_one_here", "_law_many"]) fun _ _ _ _ _ _ us hl => match us, hl with | [_, _], _ => rfl
  have F__law_right := fun_mk (st := st__law_right) l__law_right c__law_right k__law_right
  have b__law_right := F__law_right.binds (ps := ["_law_bag_here"]) fun _ _ _ _ _ _ us hl => match us, hl with | [_], _ => rfl
  have F_law := fun_mk (st := st_law) l_law c_law k_law
  have b_law := F_law.binds (ps := ["_law_cells"]) fun _ _ _ _ _ _ us hl => match us, hl with | [_], _ => rfl
  have kb_Ratio___init___0_bottom_top : ∃ g, KBn K (PySem.W.fnOf "__init__" "Ratio.__init__" (defArgs st_Ratio___init__) (defBody st_Ratio___init__) (defScope st_Ratio___init__) (.ref dt_Ratio___init__) kV_Ratio___init__ dc_Ratio___init__ pm_Ratio___init__ an_Ratio___init__ cd_Ratio___init__ ct_Ratio___init__) ["self", "top", "bottom"] 1 ["bottom", "top"] g gv_Ratio___init___0_bottom_top := by
    obtain ⟨its, h⟩ := FunD.kbindsD (ps := ["self", "top", "bottom"]) F_Ratio___init__ 1 ["bottom", "top"] (fun us _ ws => us ++ ws.reverse) (by simp) (fun r1 _ r3 => r1.append (Vals_rev r3)) fun T kV doc pm an cdv ct us its ws l1 l2 l3 => match us, its, ws, l1, l2, l3 with | [_], [_], [_, _], _, _, _ => ⟨_, rfl, rfl⟩
    exact ⟨_, h⟩
  have kb_Ratio_compared_0_other : ∃ g, KBn K (PySem.W.fnOf "compared" "Ratio.compared" (defArgs st_Ratio_compared) (defBody st_Ratio_compared) (defScope st_Ratio_compared) .none kV_Ratio_compared dc_Ratio_compared pm_Ratio_compared an_Ratio_compared cd_Ratio_compared ct_Ratio_compared) ["self", "other"] 1 ["other"] g gv_Ratio_compared_0_other := Fun_kb (ps := ["self", "other"]) F_Ratio_compared 1 ["other"] (fun us ws => us ++ ws) (fun r1 r3 => r1.append r3) fun kV doc pm an cdv ct us ws l1 l2 => match us, ws, l1, l2 with | [_], [_], _, _ => rfl
  have kb_Ratio_over_0_other : ∃ g, KBn K (PySem.W.fnOf "over" "Ratio.over" (defArgs st_Ratio_over) (defBody st_Ratio_over) (defScope st_Ratio_over) .none kV_Ratio_over dc_Ratio_over pm_Ratio_over an_Ratio_over cd_Ratio_over ct_Ratio_over) ["self", "other"] 1 ["other"] g gv_Ratio_over_0_other := Fun_kb (ps := ["self", "other"]) F_Ratio_over 1 ["other"] (fun us ws => us ++ ws) (fun r1 r3 => r1.append r3) fun kV doc pm an cdv ct us ws l1 l2 => match us, ws, l1, l2 with | [_], [_], _, _ => rfl
  have bd_Ratio___init___1 : ∃ ds, Vals [.int 1] ds ∧ Binds K (PySem.W.fnOf "__init__" "Ratio.__init__" (defArgs st_Ratio___init__) (defBody st_Ratio___init__) (defScope st_Ratio___init__) (.ref dt_Ratio___init__) kV_Ratio___init__ dc_Ratio___init__ pm_Ratio___init__ an_Ratio___init__ cd_Ratio___init__ ct_Ratio___init__) ["self", "top", "bottom"] ds := FunD.binds1 (ps := ["self", "top", "bottom"]) F_Ratio___init__ 2 0 (by simp) (by rfl) fun T kV doc pm an cdv ct us its l1 l2 => match us, its, l1, l2 with | [_, _], [_], _, _ => ⟨_, rfl, rfl⟩
  let a : Cl := { C_Ratio := C_Ratio, cls := [C_Ratio] }
  let x : Fx := { f_is_integer := f_is_integer, d_is_integer := (PySem.W.fnOf "is_integer" "is_integer" (defArgs st_is_integer) (defBody st_is_integer) (defScope st_is_integer) .none kV_is_integer dc_is_integer pm_is_integer an_is_integer cd_is_integer ct_is_integer), f_shared_factor := f_shared_factor, d_shared_factor := (PySem.W.fnOf "shared_factor" "shared_factor" (defArgs st_shared_factor) (defBody st_shared_factor) (defScope st_shared_factor) .none kV_shared_factor dc_shared_factor pm_shared_factor an_shared_factor cd_shared_factor ct_shared_factor), f_Ratio___init__ := f_Ratio___init__, d_Ratio___init__ := (PySem.W.fnOf "__init__" "Ratio.__init__" (defArgs st_Ratio___init__) (defBody st_Ratio___init__) (defScope st_Ratio___init__) (.ref dt_Ratio___init__) kV_Ratio___init__ dc_Ratio___init__ pm_Ratio___init__ an_Ratio___init__ cd_Ratio___init__ ct_Ratio___init__), f_as_ratio := f_as_ratio, d_as_ratio := (PySem.W.fnOf "as_ratio" "as_ratio" (defArgs st_as_ratio) (defBody st_as_ratio) (defScope st_as_ratio) .none kV_as_ratio dc_as_ratio pm_as_ratio an_as_ratio cd_as_ratio ct_as_ratio), f_is_fraction := f_is_fraction, d_is_fraction := (PySem.W.fnOf "is_fraction" "is_fraction" (defArgs st_is_fraction) (defBody st_is_fraction) (defScope st_is_fraction) .none kV_is_fraction dc_is_fraction pm_is_fraction an_is_fraction cd_is_fraction ct_is_fraction), f_Ratio___eq__ := f_Ratio___eq__, d_Ratio___eq__ := (PySem.W.fnOf "__eq__" "Ratio.__eq__" (defArgs st_Ratio___eq__) (defBody st_Ratio___eq__) (defScope st_Ratio___eq__) .none kV_Ratio___eq__ dc_Ratio___eq__ pm_Ratio___eq__ an_Ratio___eq__ cd_Ratio___eq__ ct_Ratio___eq__), f__law_bag := f__law_bag, d__law_bag := (PySem.W.fnOf "_law_bag" "_law_bag" (defArgs st__law_bag) (defBody st__law_bag) (defScope st__law_bag) .none kV__law_bag dc__law_bag pm__law_bag an__law_bag cd__law_bag ct__law_bag), f__law_draw := f__law_draw, d__law_draw := (PySem.W.fnOf "_law_draw" "_law_draw" (defArgs st__law_draw) (defBody st__law_draw) (defScope st__law_draw) .none kV__law_draw dc__law_draw pm__law_draw an__law_draw cd__law_draw ct__law_draw), f__law_one := f__law_one, d__law_one := (PySem.W.fnOf "_law_one" "_law_one" (defArgs st__law_one) (defBody st__law_one) (defScope st__law_one) .none kV__law_one dc__law_one pm__law_one an__law_one cd__law_one ct__law_one), f__law_pair := f__law_pair, d__law_pair := (PySem.W.fnOf "_law_pair" "_law_pair" (defArgs st__law_pair) (defBody st__law_pair) (defScope st__law_pair) .none kV__law_pair dc__law_pair pm__law_pair an__law_pair cd__law_pair ct__law_pair), f_Ratio___add__ := f_Ratio___add__, d_Ratio___add__ := (PySem.W.fnOf "__add__" "Ratio.__add__" (defArgs st_Ratio___add__) (defBody st_Ratio___add__) (defScope st_Ratio___add__) .none kV_Ratio___add__ dc_Ratio___add__ pm_Ratio___add__ an_Ratio___add__ cd_Ratio___add__ ct_Ratio___add__), f_Ratio___mul__ := f_Ratio___mul__, d_Ratio___mul__ := (PySem.W.fnOf "__mul__" "Ratio.__mul__" (defArgs st_Ratio___mul__) (defBody st_Ratio___mul__) (defScope st_Ratio___mul__) .none kV_Ratio___mul__ dc_Ratio___mul__ pm_Ratio___mul__ an_Ratio___mul__ cd_Ratio___mul__ ct_Ratio___mul__), f_Ratio___neg__ := f_Ratio___neg__, d_Ratio___neg__ := (PySem.W.fnOf "__neg__" "Ratio.__neg__" (defArgs st_Ratio___neg__) (defBody st_Ratio___neg__) (defScope st_Ratio___neg__) .none kV_Ratio___neg__ dc_Ratio___neg__ pm_Ratio___neg__ an_Ratio___neg__ cd_Ratio___neg__ ct_Ratio___neg__), f_Ratio___sub__ := f_Ratio___sub__, d_Ratio___sub__ := (PySem.W.fnOf "__sub__" "Ratio.__sub__" (defArgs st_Ratio___sub__) (defBody st_Ratio___sub__) (defScope st_Ratio___sub__) .none kV_Ratio___sub__ dc_Ratio___sub__ pm_Ratio___sub__ an_Ratio___sub__ cd_Ratio___sub__ ct_Ratio___sub__), f_compared := f_compared, d_compared := (PySem.W.fnOf "compared" "compared" (defArgs st_compared) (defBody st_compared) (defScope st_compared) .none kV_compared dc_compared pm_compared an_compared cd_compared ct_compared), f_Ratio_compared := f_Ratio_compared, d_Ratio_compared := (PySem.W.fnOf "compared" "Ratio.compared" (defArgs st_Ratio_compared) (defBody st_Ratio_compared) (defScope st_Ratio_compared) .none kV_Ratio_compared dc_Ratio_compared pm_Ratio_compared an_Ratio_compared cd_Ratio_compared ct_Ratio_compared), f_Ratio_over := f_Ratio_over, d_Ratio_over := (PySem.W.fnOf "over" "Ratio.over" (defArgs st_Ratio_over) (defBody st_Ratio_over) (defScope st_Ratio_over) .none kV_Ratio_over dc_Ratio_over pm_Ratio_over an_Ratio_over cd_Ratio_over ct_Ratio_over), f__law_lowest := f__law_lowest, d__law_lowest := (PySem.W.fnOf "_law_lowest" "_law_lowest" (defArgs st__law_lowest) (defBody st__law_lowest) (defScope st__law_lowest) .none kV__law_lowest dc__law_lowest pm__law_lowest an__law_lowest cd__law_lowest ct__law_lowest), f__law_parts := f__law_parts, d__law_parts := (PySem.W.fnOf "_law_parts" "_law_parts" (defArgs st__law_parts) (defBody st__law_parts) (defScope st__law_parts) .none kV__law_parts dc__law_parts pm__law_parts an__law_parts cd__law_parts ct__law_parts), f__law_pair_right := f__law_pair_right, d__law_pair_right := (PySem.W.fnOf "_law_pair_right" "_law_pair_right" (defArgs st__law_pair_right) (defBody st__law_pair_right) (defScope st__law_pair_right) .none kV__law_pair_right dc__law_pair_right pm__law_pair_right an__law_pair_right cd__law_pair_right ct__law_pair_right), f_Ratio___radd__ := f_Ratio___radd__, d_Ratio___radd__ := (PySem.W.fnOf "__radd__" "Ratio.__radd__" (defArgs st_Ratio___radd__) (defBody st_Ratio___radd__) (defScope st_Ratio___radd__) .none kV_Ratio___radd__ dc_Ratio___radd__ pm_Ratio___radd__ an_Ratio___radd__ cd_Ratio___radd__ ct_Ratio___radd__), f_Ratio___rmul__ := f_Ratio___rmul__, d_Ratio___rmul__ := (PySem.W.fnOf "__rmul__" "Ratio.__rmul__" (defArgs st_Ratio___rmul__) (defBody st_Ratio___rmul__) (defScope st_Ratio___rmul__) .none kV_Ratio___rmul__ dc_Ratio___rmul__ pm_Ratio___rmul__ an_Ratio___rmul__ cd_Ratio___rmul__ ct_Ratio___rmul__), f_Ratio___rsub__ := f_Ratio___rsub__, d_Ratio___rsub__ := (PySem.W.fnOf "__rsub__" "Ratio.__rsub__" (defArgs st_Ratio___rsub__) (defBody st_Ratio___rsub__) (defScope st_Ratio___rsub__) .none kV_Ratio___rsub__ dc_Ratio___rsub__ pm_Ratio___rsub__ an_Ratio___rsub__ cd_Ratio___rsub__ ct_Ratio___rsub__), f__law_whole_right := f__law_whole_right, d__law_whole_right := (PySem.W.fnOf "_law_whole_right" "_law_whole_right" (defArgs st__law_whole_right) (defBody st__law_whole_right) (defScope st__law_whole_right) .none kV__law_whole_right dc__law_whole_right pm__law_whole_right an__law_whole_right cd__law_whole_right ct__law_whole_right), f__law_right := f__law_right, d__law_right := (PySem.W.fnOf "_law_right" "_law_right" (defArgs st__law_right) (defBody st__law_right) (defScope st__law_right) .none kV__law_right dc__law_right pm__law_right an__law_right cd__law_right ct__law_right), f_law := fa, d_law := (PySem.W.fnOf "law" "law" (defArgs st_law) (defBody st_law) (defScope st_law) .none kV_law dc_law pm_law an_law cd_law ct_law), fo_Ratio_add := fo_Ratio_add, ro_Ratio_add := ro_Ratio_add, fo_Ratio_mul := fo_Ratio_mul, ro_Ratio_mul := ro_Ratio_mul, fo_Ratio_sub := fo_Ratio_sub, ro_Ratio_sub := ro_Ratio_sub }
  have cf_Ratio : CF K C_Ratio := ⟨⟨pg_Ratio, hd_Ratio, po_Ratio, sa_Ratio⟩, ha_Ratio, hn, ht, hm_Ratio,
    fun T hT => by simp only [List.mem_cons, List.not_mem_nil, or_false] at hT; rcases hT with rfl | rfl | rfl | rfl | rfl | rfl <;> assumption,
    fun T hT => by simp only [List.mem_cons, List.not_mem_nil, or_false] at hT; rcases hT with rfl | rfl | rfl | rfl | rfl | rfl | rfl <;> assumption,
    fun T hT => by simp only [List.mem_cons, List.not_mem_nil, or_false] at hT; rcases hT with rfl | rfl | rfl | rfl | rfl | rfl | rfl <;> assumption⟩
  have kf : KF K a := by
    refine ⟨fun C hC => ?_, fun C hC D hD => ?_, fun C hC D hD => ?_⟩
    · cases List.mem_singleton.mp hC; exact cf_Ratio
    · cases List.mem_singleton.mp hC; cases List.mem_singleton.mp hD; unfold PySem.W.kitOne; simp
    · cases List.mem_singleton.mp hC; cases List.mem_singleton.mp hD; exact nn_Ratio_Ratio
  have T : Txt K mg a x := { kf := kf, in_Ratio := by simp [a], F_is_integer := F_is_integer, b_is_integer := b_is_integer, F_shared_factor := F_shared_factor, b_shared_factor := b_shared_factor, F_Ratio___init__ := F_Ratio___init__, b_Ratio___init__ := b_Ratio___init__, F_as_ratio := F_as_ratio, b_as_ratio := b_as_ratio, F_is_fraction := F_is_fraction, b_is_fraction := b_is_fraction, F_Ratio___eq__ := F_Ratio___eq__, b_Ratio___eq__ := b_Ratio___eq__, F__law_bag := F__law_bag, b__law_bag := b__law_bag, F__law_draw := F__law_draw, b__law_draw := b__law_draw, F__law_one := F__law_one, b__law_one := b__law_one, F__law_pair := F__law_pair, b__law_pair := b__law_pair, F_Ratio___add__ := F_Ratio___add__, b_Ratio___add__ := b_Ratio___add__, F_Ratio___mul__ := F_Ratio___mul__, b_Ratio___mul__ := b_Ratio___mul__, F_Ratio___neg__ := F_Ratio___neg__, b_Ratio___neg__ := b_Ratio___neg__, F_Ratio___sub__ := F_Ratio___sub__, b_Ratio___sub__ := b_Ratio___sub__, F_compared := F_compared, b_compared := b_compared, F_Ratio_compared := F_Ratio_compared, b_Ratio_compared := b_Ratio_compared, F_Ratio_over := F_Ratio_over, b_Ratio_over := b_Ratio_over, F__law_lowest := F__law_lowest, b__law_lowest := b__law_lowest, F__law_parts := F__law_parts, b__law_parts := b__law_parts, F__law_pair_right := F__law_pair_right, b__law_pair_right := b__law_pair_right, F_Ratio___radd__ := F_Ratio___radd__, b_Ratio___radd__ := b_Ratio___radd__, F_Ratio___rmul__ := F_Ratio___rmul__, b_Ratio___rmul__ := b_Ratio___rmul__, F_Ratio___rsub__ := F_Ratio___rsub__, b_Ratio___rsub__ := b_Ratio___rsub__, F__law_whole_right := F__law_whole_right, b__law_whole_right := b__law_whole_right, F__law_right := F__law_right, b__law_right := b__law_right, F_law := F_law, b_law := b_law, g__law_bag := PySem.W.mg_of X G a__law_bag, g__law_draw := PySem.W.mg_of X G a__law_draw, g__law_lowest := PySem.W.mg_of X G a__law_lowest, g__law_one := PySem.W.mg_of X G a__law_one, g__law_pair := PySem.W.mg_of X G a__law_pair, g__law_pair_right := PySem.W.mg_of X G a__law_pair_right, g__law_parts := PySem.W.mg_of X G a__law_parts, g__law_right := PySem.W.mg_of X G a__law_right, g__law_whole_right := PySem.W.mg_of X G a__law_whole_right, g_as_ratio := PySem.W.mg_of X G a_as_ratio, g_compared_ratios := PySem.W.mg_of X G ag_compared_ratios, g_is_fraction := PySem.W.mg_of X G a_is_fraction, g_is_integer := PySem.W.mg_of X G a_is_integer, g_shared_factor := PySem.W.mg_of X G a_shared_factor, n_abs := PySem.W.mg_none_of X G z_abs, n_all := PySem.W.mg_none_of X G z_all, n_bool := PySem.W.mg_none_of X G z_bool, n_int := PySem.W.mg_none_of X G z_int, n_isinstance := PySem.W.mg_none_of X G z_isinstance, n_len := PySem.W.mg_none_of X G z_len, n_max := PySem.W.mg_none_of X G z_max, n_min := PySem.W.mg_none_of X G z_min, n_range := PySem.W.mg_none_of X G z_range, g_Ratio := PySem.W.mg_of X G aC_Ratio, cl_Ratio := cf_Ratio.cl, sf_Ratio := sf_Ratio, int_Ratio := si_Ratio, sub_Ratio := sj_Ratio, mk_Ratio := ⟨mk_Ratio, a_Ratio___init__, i_Ratio___init__, kc_Ratio⟩, na_Ratio_bottom := na_Ratio_bottom, na_Ratio_top := na_Ratio_top, m_Ratio_compared := ⟨a_Ratio_compared, i_Ratio_compared, k_Ratio_compared⟩, m_Ratio_over := ⟨a_Ratio_over, i_Ratio_over, k_Ratio_over⟩, o_Ratio_add := ⟨of_Ratio_add, i_Ratio___add__⟩, r_Ratio_add := ⟨sf_Ratio, of_Ratio_add, or_Ratio_add, i_Ratio___radd__, i1_Ratio_add, i2_Ratio_add, fi_Ratio_add, sj_Ratio⟩, o_Ratio_mul := ⟨of_Ratio_mul, i_Ratio___mul__⟩, r_Ratio_mul := ⟨sf_Ratio, of_Ratio_mul, or_Ratio_mul, i_Ratio___rmul__, i1_Ratio_mul, i2_Ratio_mul, fi_Ratio_mul, sj_Ratio⟩, o_Ratio_sub := ⟨of_Ratio_sub, i_Ratio___sub__⟩, r_Ratio_sub := ⟨sf_Ratio, of_Ratio_sub, or_Ratio_sub, i_Ratio___rsub__, i1_Ratio_sub, i2_Ratio_sub, fi_Ratio_sub, sj_Ratio⟩, o_Ratio_eq := ⟨a_Ratio___eq__, i_Ratio___eq__⟩, ne_Ratio := ne_Ratio, ob_Ratio := ob_Ratio, o_Ratio_neg := ⟨a_Ratio___neg__, i_Ratio___neg__⟩, kb_Ratio___init___0_bottom_top := kb_Ratio___init___0_bottom_top, kb_Ratio_compared_0_other := kb_Ratio_compared_0_other, kb_Ratio_over_0_other := kb_Ratio_over_0_other, bd_Ratio___init___1 := bd_Ratio___init___1 }
  exact ⟨_, fun s v => .of_eq rfl, fun base _ _ => ok_law T⟩
theorem walk {l : PySem.W.OpenLaw} {q : Program} {loose : List Str} {XP : (Str → Option Value) → Heap → Prop} {YP : World → Heap → Prop} {d : DefRec} {K : Params → PySem.W.Frag} (hn : l.most = some 63) (hdf : d.params.defaults = [])
    (hY : ∀ (w : World) (h : Heap), YP w h → (K w.params).In h)
    (F : ∀ (w : World) (mg : Str → Option Value) (fa : Addr) (h : Heap), (K w.params).In h → h.Ns mainGlobals mg → mg d.name = some (.ref fa) →
      ∃ fd : FuncData, (∀ (s : Shared) (u : Value), BindsTo s fd ⟨[u], []⟩ [("_law_cells", u)]) ∧ ∀ base : Heap, (K w.params).In base → base.Ns mainGlobals mg → FnOk l.prog w (K w.params) mg base (L2.CX l.prog w) 15 fa fd ["_law_cells"] (sp_law (K w.params) ({} : Cl))) :
    PySem.W.WalkO q loose XP YP l.row.toRowW d [] (fun f vs => PySem.call f vs) :=
  L2.walk_of (n := 63) (k := 15) (x := "_law_cells") (CX := fun w => L2.CX l.prog w) (sp := fun w => sp_law (K w.params) ({} : Cl)) hn (by decide) hdf ⟨rfl, by decide, by decide⟩ hY F (fun _ _ a ns hl _ hS => ⟨a, ns, rfl, hS, hl, fun _ => rfl⟩) fun _ _ _ _ _ h => by
    obtain ⟨_, _, _, _, _, _, _, _, _, _, _, _, z⟩ := h
    exact z
end SL
open PySem PySem.W PyProof.Rows
set_option maxRecDepth 100000 in
set_option maxHeartbeats 0 in
theorem PySem.Challenge.cw_slackstrings_k01_ratios_reckoned_holds : PySem.Challenge.rw_slackstrings_k01_ratios_reckoned.Holds := by
  w_on; o_law; k_head; (case hw => w_witness2)
  k_fill
  refine SL.walk (l := PySem.Challenge.rw_slackstrings_k01_ratios_reckoned) rfl rfl (fun w h Y => PySem.W.kIn_of Y) ?F
  case F =>
    intro w mg fa h KX G hmg
    refine' SL.all_mk KX G hmg ?aC_Ratio ?a_is_integer ?l_is_integer ?c_is_integer ?k_is_integer ?a_shared_factor ?l_shared_factor ?c_shared_factor ?k_shared_factor ?a_Ratio___init__ ?i_Ratio___init__ ?l_Ratio___init__ ?c_Ratio___init__ ?k_Ratio___init__ ?t_Ratio___init__ ?u_Ratio___init__ ?a_as_ratio ?l_as_ratio ?c_as_ratio ?k_as_ratio ?a_is_fraction ?l_is_fraction ?c_is_fraction ?k_is_fraction ?a_Ratio___eq__ ?i_Ratio___eq__ ?l_Ratio___eq__ ?c_Ratio___eq__ ?k_Ratio___eq__ ?a__law_bag ?l__law_bag ?c__law_bag ?k__law_bag ?a__law_draw ?l__law_draw ?c__law_draw ?k__law_draw ?a__law_one ?l__law_one ?c__law_one ?k__law_one ?a__law_pair ?l__law_pair ?c__law_pair ?k__law_pair ?a_Ratio___add__ ?i_Ratio___add__ ?l_Ratio___add__ ?c_Ratio___add__ ?k_Ratio___add__ ?a_Ratio___mul__ ?i_Ratio___mul__ ?l_Ratio___mul__ ?c_Ratio___mul__ ?k_Ratio___mul__ ?a_Ratio___neg__ ?i_Ratio___neg__ ?l_Ratio___neg__ ?c_Ratio___neg__ ?k_Ratio___neg__ ?a_Ratio___sub__ ?i_Ratio___sub__ ?l_Ratio___sub__ ?c_Ratio___sub__ ?k_Ratio___sub__ ?a_compared ?l_compared ?c_compared ?k_compared ?a_Ratio_compared ?i_Ratio_compared ?l_Ratio_compared ?c_Ratio_compared ?k_Ratio_compared ?a_Ratio_over ?i_Ratio_over ?l_Ratio_over ?c_Ratio_over ?k_Ratio_over ?a__law_lowest ?l__law_lowest ?c__law_lowest ?k__law_lowest ?a__law_parts ?l__law_parts ?c__law_parts ?k__law_parts ?a__law_pair_right ?l__law_pair_right ?c__law_pair_right ?k__law_pair_right ?a_Ratio___radd__ ?i_Ratio___radd__ ?l_Ratio___radd__ ?c_Ratio___radd__ ?k_Ratio___radd__ ?a_Ratio___rmul__ ?i_Ratio___rmul__ ?l_Ratio___rmul__ ?c_Ratio___rmul__ ?k_Ratio___rmul__ ?a_Ratio___rsub__ ?i_Ratio___rsub__ ?l_Ratio___rsub__ ?c_Ratio___rsub__ ?k_Ratio___rsub__ ?a__law_whole_right ?l__law_whole_right ?c__law_whole_right ?k__law_whole_right ?a__law_right ?l__law_right ?c__law_right ?k__law_right ?a_law ?l_law ?c_law ?k_law ?ag_compared_ratios ?z_abs ?z_all ?z_bool ?z_int ?z_isinstance ?z_len ?z_max ?z_min ?z_range ?pg_Ratio ?hd_Ratio ?po_Ratio ?sa_Ratio ?mk_Ratio ?kc_Ratio ?sf_Ratio ?si_Ratio ?sj_Ratio ?ha_Ratio ?hm_Ratio ?kb_Ratio_int ?kb_Ratio_bool ?kb_Ratio_str ?kb_Ratio_tuple ?kb_Ratio_list ?kb_Ratio_dict ?kt_Ratio_NoneType ?nf_Ratio_NoneType ?kt_Ratio_bool ?nf_Ratio_bool ?kt_Ratio_int ?nf_Ratio_int ?kt_Ratio_str ?nf_Ratio_str ?kt_Ratio_list ?nf_Ratio_list ?kt_Ratio_tuple ?nf_Ratio_tuple ?kt_Ratio_dict ?nf_Ratio_dict ?nn_Ratio_Ratio ?hn ?ht ?na_Ratio_bottom ?na_Ratio_top ?of_Ratio_add ?i1_Ratio_add ?i2_Ratio_add ?or_Ratio_add ?fi_Ratio_add ?of_Ratio_mul ?i1_Ratio_mul ?i2_Ratio_mul ?or_Ratio_mul ?fi_Ratio_mul ?of_Ratio_sub ?i1_Ratio_sub ?i2_Ratio_sub ?or_Ratio_sub ?fi_Ratio_sub ?ne_Ratio ?ob_Ratio
    (case aC_Ratio => k_is); (case a_is_integer => k_is); (case l_is_integer => k_is); (case c_is_integer => k_is); (case k_is_integer => k_is); (case a_shared_factor => k_is); (case l_shared_factor => k_is); (case c_shared_factor => k_is)
    (case k_shared_factor => k_is); (case a_Ratio___init__ => k_is); (case i_Ratio___init__ => k_is); (case l_Ratio___init__ => k_is); (case c_Ratio___init__ => k_is); (case k_Ratio___init__ => k_is); (case t_Ratio___init__ => k_is); (case u_Ratio___init__ => exact .cons ⟨_, rfl⟩ .nil)
    (case a_as_ratio => k_is); (case l_as_ratio => k_is); (case c_as_ratio => k_is); (case k_as_ratio => k_is); (case a_is_fraction => k_is); (case l_is_fraction => k_is); (case c_is_fraction => k_is); (case k_is_fraction => k_is)
    (case a_Ratio___eq__ => k_is); (case i_Ratio___eq__ => k_is); (case l_Ratio___eq__ => k_is); (case c_Ratio___eq__ => k_is); (case k_Ratio___eq__ => k_is); (case a__law_bag => k_is); (case l__law_bag => k_is); (case c__law_bag => k_is)
    (case k__law_bag => k_is); (case a__law_draw => k_is); (case l__law_draw => k_is); (case c__law_draw => k_is); (case k__law_draw => k_is); (case a__law_one => k_is); (case l__law_one => k_is); (case c__law_one => k_is)
    (case k__law_one => k_is); (case a__law_pair => k_is); (case l__law_pair => k_is); (case c__law_pair => k_is); (case k__law_pair => k_is); (case a_Ratio___add__ => k_is); (case i_Ratio___add__ => k_is); (case l_Ratio___add__ => k_is)
    (case c_Ratio___add__ => k_is); (case k_Ratio___add__ => k_is); (case a_Ratio___mul__ => k_is); (case i_Ratio___mul__ => k_is); (case l_Ratio___mul__ => k_is); (case c_Ratio___mul__ => k_is); (case k_Ratio___mul__ => k_is); (case a_Ratio___neg__ => k_is)
    (case i_Ratio___neg__ => k_is); (case l_Ratio___neg__ => k_is); (case c_Ratio___neg__ => k_is); (case k_Ratio___neg__ => k_is); (case a_Ratio___sub__ => k_is); (case i_Ratio___sub__ => k_is); (case l_Ratio___sub__ => k_is); (case c_Ratio___sub__ => k_is)
    (case k_Ratio___sub__ => k_is); (case a_compared => k_is); (case l_compared => k_is); (case c_compared => k_is); (case k_compared => k_is); (case a_Ratio_compared => k_is); (case i_Ratio_compared => k_is); (case l_Ratio_compared => k_is)
    (case c_Ratio_compared => k_is); (case k_Ratio_compared => k_is); (case a_Ratio_over => k_is); (case i_Ratio_over => k_is); (case l_Ratio_over => k_is); (case c_Ratio_over => k_is); (case k_Ratio_over => k_is); (case a__law_lowest => k_is)
    (case l__law_lowest => k_is); (case c__law_lowest => k_is); (case k__law_lowest => k_is); (case a__law_parts => k_is); (case l__law_parts => k_is); (case c__law_parts => k_is); (case k__law_parts => k_is); (case a__law_pair_right => k_is)
    (case l__law_pair_right => k_is); (case c__law_pair_right => k_is); (case k__law_pair_right => k_is); (case a_Ratio___radd__ => k_is); (case i_Ratio___radd__ => k_is); (case l_Ratio___radd__ => k_is); (case c_Ratio___radd__ => k_is); (case k_Ratio___radd__ => k_is)
    (case a_Ratio___rmul__ => k_is); (case i_Ratio___rmul__ => k_is); (case l_Ratio___rmul__ => k_is); (case c_Ratio___rmul__ => k_is); (case k_Ratio___rmul__ => k_is); (case a_Ratio___rsub__ => k_is); (case i_Ratio___rsub__ => k_is); (case l_Ratio___rsub__ => k_is)
    (case c_Ratio___rsub__ => k_is); (case k_Ratio___rsub__ => k_is); (case a__law_whole_right => k_is); (case l__law_whole_right => k_is); (case c__law_whole_right => k_is); (case k__law_whole_right => k_is); (case a__law_right => k_is); (case l__law_right => k_is)
    (case c__law_right => k_is); (case k__law_right => k_is); (case a_law => k_is); (case l_law => k_is); (case c_law => k_is); (case k_law => k_is); (case ag_compared_ratios => k_is); (case z_abs => k_is)
    (case z_all => k_is); (case z_bool => k_is); (case z_int => k_is); (case z_isinstance => k_is); (case z_len => k_is); (case z_max => k_is); (case z_min => k_is); (case z_range => k_is)
    (case pg_Ratio => k_is); (case hd_Ratio => k_is); (case po_Ratio => k_is); (case sa_Ratio => k_is); (case mk_Ratio => k_is); (case kc_Ratio => k_is); (case sf_Ratio => k_is); (case si_Ratio => k_is)
    (case sj_Ratio => k_is); (case ha_Ratio => k_is); (case hm_Ratio => k_is); (case kb_Ratio_int => kit_is); (case kb_Ratio_bool => kit_is); (case kb_Ratio_str => kit_is); (case kb_Ratio_tuple => kit_is); (case kb_Ratio_list => kit_is)
    (case kb_Ratio_dict => kit_is); (case kt_Ratio_NoneType => kit_is); (case nf_Ratio_NoneType => k_is); (case kt_Ratio_bool => kit_is); (case nf_Ratio_bool => k_is); (case kt_Ratio_int => kit_is); (case nf_Ratio_int => k_is); (case kt_Ratio_str => kit_is)
    (case nf_Ratio_str => k_is); (case kt_Ratio_list => kit_is); (case nf_Ratio_list => k_is); (case kt_Ratio_tuple => kit_is); (case nf_Ratio_tuple => k_is); (case kt_Ratio_dict => kit_is); (case nf_Ratio_dict => k_is); (case nn_Ratio_Ratio => k_is)
    (case hn => k_is); (case ht => k_is); (case na_Ratio_bottom => k_is); (case na_Ratio_top => k_is); (case of_Ratio_add => k_is); (case i1_Ratio_add => k_is); (case i2_Ratio_add => k_is); (case or_Ratio_add => k_is)
    (case fi_Ratio_add => decide); (case of_Ratio_mul => k_is); (case i1_Ratio_mul => k_is); (case i2_Ratio_mul => k_is); (case or_Ratio_mul => k_is); (case fi_Ratio_mul => decide); (case of_Ratio_sub => k_is); (case i1_Ratio_sub => k_is)
    (case i2_Ratio_sub => k_is); (case or_Ratio_sub => k_is); (case fi_Ratio_sub => decide); (case ne_Ratio => k_is); (case ob_Ratio => k_is)
