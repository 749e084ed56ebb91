import PyProof.Rows.All
import Wide.All
import OpenK.AllK
import Wide.FinOn
import PyProof.TwoTypes
import PyProof.ListMulRight
import PyProof.NeKinds
import PyProof.InstNe
import KE.KOpsOwn
import HandS.ForMost
import HandS.ForExc
import HandS.Defaults
import HandS.MakeKw
import HandS.MakeKwOnly
import HandS.IsInst
import HandS.Wide
import HandS.EndBits
import HandS.FStr
import HandS.DictComp
import HandS.Walk
import HandS.Zip
import HandS.RaiseMore
import HandS.Steps
import KE.KCallOwn
import HandS.TupAny
import HandS.Deep
import HandS.More
import HandS.Conv
import KE.KDictPairs
import PySem.Challenge.RW_slackstrings_k04_forms_reckoned
set_option Elab.async false
set_option linter.all false
set_option maxRecDepth 100000
namespace SL

/-! ### sizes -/
/-- below 2 ^ k in size -/
def Bd (k : Nat) (z : Int) : Prop := z.natAbs < 2 ^ k
theorem Bd.mono {a b : Nat} {z : Int} (h : Bd a z) (l : a ≤ b) : Bd b z := Nat.lt_of_lt_of_le h (Nat.pow_le_pow_right (by decide) l)
theorem Bd.mul {a b : Nat} {x y : Int} (h : Bd a x) (h' : Bd b y) : Bd (a + b) (x * y) := by
  unfold Bd
  rw [Int.natAbs_mul, Nat.pow_add]
  exact Nat.mul_lt_mul'' h h'
theorem Bd.add {a : Nat} {x y : Int} (h : Bd a x) (h' : Bd a y) : Bd (a + 1) (x + y) := by
  unfold Bd at *
  rw [Nat.pow_succ]
  have := Int.natAbs_add_le x y
  omega
theorem Bd.neg {a : Nat} {x : Int} (h : Bd a x) : Bd a (-x) := by
  unfold Bd at *
  rw [Int.natAbs_neg]
  exact h
theorem Bd.sub {a : Nat} {x y : Int} (h : Bd a x) (h' : Bd a y) : Bd (a + 1) (x - y) := by
  rw [Int.sub_eq_add_neg]
  exact Bd.add h h'.neg
theorem Bd.of_le {a : Nat} {x y : Int} (h : Bd a y) (l : x.natAbs ≤ y.natAbs) : Bd a x := Nat.lt_of_le_of_lt l h
theorem Bd.small {x : Int} {k : Nat} (hk : 64 ≤ k) (h0 : -1000000000000 ≤ x) (h1 : x ≤ 1000000000000) : Bd k x := by
  refine Bd.mono (a := 64) ?_ hk
  unfold Bd
  have : (2 : Nat) ^ 64 = 18446744073709551616 := by decide
  omega

/-! ### lowest terms -/
/-- the greatest common divisor as an int -/
def gI (n d : Int) : Int := (Int.gcd n d : Int)
theorem gI_pos {n d : Int} (h : d ≠ 0) : 0 < gI n d := by
  unfold gI
  have : 0 < Int.gcd n d := Int.gcd_pos_of_ne_zero_right n h
  omega
theorem gI_nonneg (n d : Int) : 0 ≤ gI n d := by unfold gI; omega
theorem gI_dvd_left (n d : Int) : gI n d ∣ n := Int.gcd_dvd_left ..
theorem gI_dvd_right (n d : Int) : gI n d ∣ d := Int.gcd_dvd_right ..
/-- numerator and denominator in lowest terms -/
def nm (n d : Int) : Int := n / gI n d
def dn (n d : Int) : Int := d / gI n d
theorem nm_mul (n d : Int) : nm n d * gI n d = n := Int.ediv_mul_cancel (gI_dvd_left n d)
theorem dn_mul (n d : Int) : dn n d * gI n d = d := Int.ediv_mul_cancel (gI_dvd_right n d)
theorem dn_pos {n d : Int} (h : 0 < d) : 0 < dn n d := by
  have e := dn_mul n d
  have g := gI_pos (n := n) (d := d) (by omega)
  rcases Int.lt_or_le 0 (dn n d) with q | q
  · exact q
  · exfalso
    have : dn n d * gI n d ≤ 0 := Int.mul_nonpos_of_nonpos_of_nonneg q (by omega)
    omega
theorem nm_dn_gcd {n d : Int} (h : d ≠ 0) : Int.gcd (nm n d) (dn n d) = 1 := by
  have g := gI_pos (n := n) (d := d) h
  unfold nm dn gI at *
  have h0 : 0 < Int.gcd n d := by omega
  rw [Int.gcd_ediv (Int.gcd_dvd_left ..) (Int.gcd_dvd_right ..)]
  simp
  exact Nat.div_self h0
theorem nm_cross (n d : Int) : nm n d * d = n * dn n d := by
  have a := nm_mul n d
  have b := dn_mul n d
  calc nm n d * d = nm n d * (dn n d * gI n d) := by rw [b]
    _ = (nm n d * gI n d) * dn n d := by rw [Int.mul_comm (dn n d), Int.mul_assoc]
    _ = n * dn n d := by rw [a]
/-- lowest terms are unique -/
theorem dvd_of_gcd {a b d : Int} (h : b ∣ a * d) (g : Int.gcd a b = 1) : b ∣ d := by
  rw [← Int.natAbs_dvd_natAbs] at h ⊢
  rw [Int.natAbs_mul] at h
  exact Nat.Coprime.dvd_of_dvd_mul_left (by rw [Nat.coprime_comm]; exact g) h
theorem low_uniq {a b c d : Int} (hb : 0 < b) (hd : 0 < d) (h1 : Int.gcd a b = 1) (h2 : Int.gcd c d = 1) (e : a * d = c * b) : a = c ∧ b = d := by
  have bd : b ∣ d := by
    have : b ∣ a * d := ⟨c, by rw [e, Int.mul_comm]⟩
    exact dvd_of_gcd this h1
  have db : d ∣ b := by
    have : d ∣ c * b := ⟨a, by rw [← e, Int.mul_comm]⟩
    exact dvd_of_gcd this h2
  have ebd : b = d := Int.dvd_antisymm (by omega) (by omega) bd db
  subst ebd
  exact ⟨Int.eq_of_mul_eq_mul_right (by omega) e, rfl⟩
theorem nm_dn_eq {n d m e : Int} (hd : 0 < d) (he : 0 < e) (h : n * e = m * d) : nm n d = nm m e ∧ dn n d = dn m e := by
  refine low_uniq (dn_pos hd) (dn_pos he) (nm_dn_gcd (by omega)) (nm_dn_gcd (by omega)) ?_
  have c1 := nm_cross n d
  have c2 := nm_cross m e
  have : (nm n d * dn m e) * (d * e) = (nm m e * dn n d) * (d * e) := by
    calc (nm n d * dn m e) * (d * e) = (nm n d * d) * (dn m e * e) := by ac_rfl
      _ = (n * dn n d) * (dn m e * e) := by rw [c1]
      _ = (n * e) * (dn n d * dn m e) := by ac_rfl
      _ = (m * d) * (dn n d * dn m e) := by rw [h]
      _ = (m * dn m e) * (dn n d * d) := by ac_rfl
      _ = (nm m e * e) * (dn n d * d) := by rw [c2]
      _ = (nm m e * dn n d) * (d * e) := by ac_rfl
  exact Int.eq_of_mul_eq_mul_right (by have := Int.mul_pos hd he; omega) this
theorem low_self {n d : Int} (hd : 0 < d) (h : Int.gcd n d = 1) : nm n d = n ∧ dn n d = d := by
  unfold nm dn gI
  rw [h]
  simp
theorem nm_natAbs_le (n d : Int) : (nm n d).natAbs ≤ n.natAbs := by
  by_cases h : gI n d = 0
  · unfold nm; rw [h]; simp
  · have e := nm_mul n d
    have : n.natAbs = (nm n d).natAbs * (gI n d).natAbs := by rw [← Int.natAbs_mul, e]
    rw [this]
    exact Nat.le_mul_of_pos_right _ (by omega)
theorem dn_natAbs_le (n d : Int) : (dn n d).natAbs ≤ d.natAbs := by
  by_cases h : gI n d = 0
  · unfold dn; rw [h]; simp
  · have e := dn_mul n d
    have : d.natAbs = (dn n d).natAbs * (gI n d).natAbs := by rw [← Int.natAbs_mul, e]
    rw [this]
    exact Nat.le_mul_of_pos_right _ (by omega)
theorem gI_le {n d : Int} (h : 0 < d) : (gI n d).natAbs ≤ d.natAbs := by
  have : gI n d ≤ d := Int.le_of_dvd h (gI_dvd_right n d)
  have := gI_nonneg n d
  omega
/-- one turn of the gcd's loop -/
theorem gcd_turn {h l : Int} (hh : 0 ≤ h) (hl : 0 < l) : gI l (h.fmod l) = gI h l := by
  unfold gI
  rw [Int.fmod_eq_emod_of_nonneg h (by omega)]
  rw [Int.gcd_comm h l]
  congr 1
  rw [Int.emod_def, Int.mul_comm]
  exact Int.gcd_sub_mul_right_right ..
theorem gI_zero {h : Int} (hh : 0 ≤ h) : gI h 0 = h := by
  unfold gI
  rw [Int.gcd_zero_right]
  omega
theorem gI_abs (n d : Int) : gI (if n < 0 then -n else n) (if d < 0 then -d else d) = gI n d := by
  unfold gI
  split <;> split <;> simp
end SL

set_option Elab.async false
set_option linter.all false
set_option maxRecDepth 100000
set_option maxHeartbeats 4000000
namespace SL
open PySem L2 PySem.Spec PyProof.Rows

section
variable {X : Cx} {pins : List (Addr × Obj)} {σ : L2.St} {H : Hp} {s : Shared} {a C dx : Addr} {fs : List (Str × V)}
theorem inst_of (I : Inv X pins σ H s) (e : H a = some (.ins C dx fs)) : ∃ od, PySem.W.InstAt s.heap a (PySem.W.instObj C dx) C (some od) := by
  obtain ⟨mA, O, _⟩ := ins_get I.hok e
  obtain ⟨od, J, _⟩ := O.look
  exact ⟨od, J⟩
theorem back_of {Q : VK} {u : Value} {s' : Shared} (h : EP X pins σ Q u s') : PySem.W.CmpBack (EP X pins σ Q) u s' := by
  obtain ⟨v, H', I, r, q⟩ := h
  cases v with
  | non => cases (show u = Value.none from r); exact ⟨.non, H', I, rfl, q⟩
  | bl b => cases (show u = Value.bool b from r); exact ⟨.bl b, H', I, rfl, q⟩
  | int i => obtain ⟨t, e⟩ := (show ∃ t, u = Value.int i t from r); subst e; exact ⟨.int i, H', I, ⟨t, rfl⟩, q⟩
  | str x => obtain ⟨t, e⟩ := (show ∃ t, u = Value.str x t from r); subst e; exact ⟨.str x, H', I, ⟨t, rfl⟩, q⟩
  | byt x => obtain ⟨t, e⟩ := (show ∃ t, u = Value.bytes x t from r); subst e; exact ⟨.byt x, H', I, ⟨t, rfl⟩, q⟩
  | flt x => obtain ⟨t, e⟩ := (show ∃ t, u = Value.float x t from r); subst e; exact ⟨.flt x, H', I, ⟨t, rfl⟩, q⟩
  | ref b => cases (show u = Value.ref b from r); exact ⟨.ref b, H', I, rfl, q⟩
  | ty n => cases (show u = Value.type n from r); exact ⟨.ty n, H', I, rfl, q⟩
end

/-- what the class at C must show for an operator of its own -/
structure OwnOp (K : PySem.W.Frag) (C f : Addr) (name : Str) : Prop where
  at_ : PySem.W.findIn K (.ref C) name = some (some (.ref f))
  fn : PySem.W.isFn K (.ref f) = true

section
variable {X : Cx} {CX : CXT} {k : Nat} {C f : Addr} {fd : FuncData} {ps : List Str} {sp : Sp} {E : XK}

/-- own op own -/
def rOwn2 (C : Addr) (sp : Sp) (E : XK) : R2 := fun x y H Q => ∃ a dx fs b dy gs, x = .ref a ∧ y = .ref b ∧ H a = some (.ins C dx fs) ∧ H b = some (.ins C dy gs) ∧ sp [x, y] H Q E
theorem op_own2 {op : Operator} (hc : PySem.W.selfFirst X.K C = true) (o : OwnOp X.K C f (PySem.dunder op.info.2)) (F : FnOk X.prog X.w X.K X.mg X.base CX k f fd ps sp) (hr : Room k X.A) (hb : Binds X.K fd ps []) (hx : Passes CX X E) :
    OpR X (binaryOp op) (rOwn2 C sp E) := by
  intro pins s σ H x y v u Q I rx ry h
  obtain ⟨a, dx, fs, b, dy, gs, rfl, rfl, ha, hb', h⟩ := h
  obtain rfl : v = Value.ref a := rx
  obtain rfl : u = Value.ref b := ry
  obtain ⟨od, J⟩ := inst_of I ha
  obtain ⟨od2, J2⟩ := inst_of I hb'
  obtain ⟨m, Fr⟩ := I.fr
  refine PySem.W.binop_K Fr I.mod.kin J J2.type hc o.at_ o.fn (wpAny_mono (run_fn (us := [.ref a, .ref b]) (vs := [.ref a, .ref b]) F hr hb .nil hx I (.cons rfl (.cons rfl .nil)) h) (fun _ _ q => back_of q) fun _ _ e => e)

/-- own op int -/
def rOwnI (C : Addr) (sp : Sp) (E : XK) : R2 := fun x y H Q => ∃ a dx fs i, x = .ref a ∧ y = .int i ∧ H a = some (.ins C dx fs) ∧ sp [x, y] H Q E
theorem op_ownI {op : Operator} {fo ro rc : Option Value} (hc : PySem.W.selfFirst X.K C = true) (o : OwnOp X.K C f (PySem.dunder op.info.2)) (F : FnOk X.prog X.w X.K X.mg X.base CX k f fd ps sp) (hr : Room k X.A) (hb : Binds X.K fd ps []) (hx : Passes CX X E)
    (hR : PySem.W.findIn X.K (.ref C) (dunderR op.info.2) = some rc) (hp : rc = none ∨ ∃ g : Addr, rc = some (.ref g)) (h1 : PySem.W.findIn X.K (.type "int") (PySem.dunder op.info.2) = some fo) (h2 : PySem.W.findIn X.K (.type "int") (dunderR op.info.2) = some ro)
    (hsub : PySem.W.subIn X.K (.type "int") (.ref C) = some false) : OpR X (binaryOp op) (rOwnI C sp E) := by
  intro pins s σ H x y v u Q I rx ry h
  obtain ⟨a, dx, fs, i, rfl, rfl, ha, h⟩ := h
  obtain rfl : v = Value.ref a := rx
  obtain ⟨t, rfl⟩ := ry
  obtain ⟨od, J⟩ := inst_of I ha
  obtain ⟨m, Fr⟩ := I.fr
  exact PySem.W.ksp_binT (T := "int") Fr I.mod.kin J rfl hc o.at_ o.fn hR hp h1 h2 hsub (wpAny_mono (run_fn (us := [.ref a, .int i t]) (vs := [.ref a, .int i]) F hr hb .nil hx I (.cons rfl (.cons ⟨t, rfl⟩ .nil)) h) (fun _ _ q => back_of q) fun _ _ e => e)

/-- -own -/
def rOwnU (C : Addr) (sp : Sp) (E : XK) : V → Hp → VK → Prop := fun x H Q => ∃ a dx fs, x = .ref a ∧ H a = some (.ins C dx fs) ∧ sp [x] H Q E
theorem un_own (o : OwnOp X.K C f "__neg__") (F : FnOk X.prog X.w X.K X.mg X.base CX k f fd ps sp) (hr : Room k X.A) (hb : Binds X.K fd ps []) (hx : Passes CX X E) : UnR X (unaryOp .USub) (rOwnU C sp E) := by
  intro pins s σ H x v Q I rx h
  obtain ⟨a, dx, fs, rfl, ha, h⟩ := h
  obtain rfl : v = Value.ref a := rx
  obtain ⟨od, J⟩ := inst_of I ha
  obtain ⟨m, Fr⟩ := I.fr
  exact PySem.W.ksp_neg Fr I.mod.kin J o.at_ o.fn (run_fn (us := [.ref a]) (vs := [.ref a]) F hr hb .nil hx I (.cons rfl .nil) h)
theorem UnR.or {f : Value → Sem Value} {r r' : V → Hp → VK → Prop} (h : UnR X f r) (h' : UnR X f r') : UnR X f (fun x H Q => r x H Q ∨ r' x H Q) := by
  intro pins s σ H x v Q I rx q
  rcases q with q | q
  · exact h pins s σ H x v Q I rx q
  · exact h' pins s σ H x v Q I rx q
end

/-! ### an int on the left of an own operator; own == and != -/
theorem int_add_plain (a : Int) (t : Tok) (l C dx : Addr) :
    Meets (Builtin.«int.__add__» ⟨[.int a t, .ref l], []⟩) (fun _ R s => s.heap.get? l = some (PySem.W.instObj C dx) ∧ R (.ok (.ret Value.notImplemented)) s) :=
  .of_wp fun prog w A R s h => by obtain ⟨hp, g, d, tk, os⟩ := s; obtain ⟨hl, h⟩ := h; wp_walk; exact ⟨_, rfl, h⟩
theorem int_sub_plain (a : Int) (t : Tok) (l C dx : Addr) :
    Meets (Builtin.«int.__sub__» ⟨[.int a t, .ref l], []⟩) (fun _ R s => s.heap.get? l = some (PySem.W.instObj C dx) ∧ R (.ok (.ret Value.notImplemented)) s) :=
  .of_wp fun prog w A R s h => by obtain ⟨hp, g, d, tk, os⟩ := s; obtain ⟨hl, h⟩ := h; wp_walk; exact ⟨_, rfl, h⟩
theorem int_mul_plain (a : Int) (t : Tok) (l C dx : Addr) :
    Meets (Builtin.«int.__mul__» ⟨[.int a t, .ref l], []⟩) (fun _ R s => s.heap.get? l = some (PySem.W.instObj C dx) ∧ R (.ok (.ret Value.notImplemented)) s) :=
  .of_wp fun prog w A R s h => by obtain ⟨hp, g, d, tk, os⟩ := s; obtain ⟨hl, h⟩ := h; wp_walk; exact ⟨_, rfl, h⟩
theorem int_eq_plain (a : Int) (t : Tok) (l C dx : Addr) :
    Meets (Builtin.«int.__eq__» ⟨[.int a t, .ref l], []⟩) (fun _ R s => s.heap.get? l = some (PySem.W.instObj C dx) ∧ R (.ok (.ret Value.notImplemented)) s) :=
  .of_wp fun prog w A R s h => by obtain ⟨hp, g, d, tk, os⟩ := s; obtain ⟨hl, h⟩ := h; wp_walk; exact ⟨_, rfl, h⟩

section
open PySem.W
variable {prog : Program} {w : World} {A : Around} {E : Value → Shared → Prop} {s : Shared} {K : Frag} {y C L f f0 dx : Addr} {h₀ : Heap} {m : Str → Option Value} {od : Option Obj}
theorem bin_refl {op : Operator} {i : Int} {t : Tok} {fo ro : Option Value} {Q : Value → Shared → Prop} (F : Fr h₀ L s.heap m) (X₀ : K.In h₀) (J : InstAt s.heap y (instObj C dx) C od) (hc : selfFirst K C = true)
    (hs : findIn K (.ref C) (PySem.dunder op.info.2) = some (some (.ref f0))) (hr : findIn K (.ref C) (dunderR op.info.2) = some (some (.ref f))) (hf : isFn K (.ref f) = true)
    (h1 : findIn K (.type "int") (PySem.dunder op.info.2) = some fo) (h2 : findIn K (.type "int") (dunderR op.info.2) = some ro) (hfill : ((fo.isSome && !isSeqSlot fo) || (ro.isSome && !isSeqSlot ro)) = true) (hsub : subIn K (.ref C) (.type "int") = some false)
    (hdec : ∀ Q' : Option Value → Shared → Prop, Q' none s → wpAny (model prog w) A (tryMethod (.int i t) (PySem.dunder op.info.2) (.ref y)) Q' E s)
    (h : wpAny (model prog w) A (call (.ref f) [.ref y, .int i t]) (PySem.W.CmpBack Q) E s) : wpAny (model prog w) A (binaryOp op (.int i t) (.ref y)) Q E s := by
  have X := X₀.keeps F.keep
  obtain ⟨cd, rest, hcd, hm⟩ := ksp_first hc
  rcases hi : op.info with ⟨sym, nm'⟩
  rw [hi] at hs hr h1 h2 hdec
  dsimp only at hs hr h1 h2 hdec
  have one := ksp_try X J hr hf h
  obtain ⟨hh, g, d, tt, os⟩ := s
  have L1 : Looks (model prog w) hh (typeOf (.int i t)) (.type "int") := Looks.of_pure rfl
  have L2 : Looks (model prog w) hh (typeOf (.ref y)) (.ref C) := J.type
  have L3 : Looks (model prog w) hh (fillsNumberSlot (.ref C) nm') true := fills_K X hcd hm hs
  have L4 : Looks (model prog w) hh (fillsNumberSlot (.type "int") nm') true := by
    have q := ksp_fillsT (M := model prog w) (nm := nm') X h1 h2
    rw [hfill] at q
    exact q
  have L5 : Looks (model prog w) hh (isSubtype (.ref C) (.type "int")) false := looks_subIn X hsub
  have L7 : Looks (model prog w) hh (numberSlotInPython (.type "int") nm') false := Looks.of_pure rfl
  have hne : (Value.type "int" == Value.ref C) = false := Bool.eq_false_iff.mpr fun q => by cases beq_iff_eq.mp q
  simp only [binaryOp, hi]
  refine wpAny_holding (wpAny_bind ?_)
  unfold binaryOp1
  refine wpAny_bind (L1.at (wpAny_bind (L2.at (wpAny_bind (L4.at ?_)))))
  simp only [hne, Bool.false_eq_true, if_false]
  ksp_lk
  refine hdec _ ?_
  ksp_lk
  refine wpAny_mono one (fun r s' hr' => ?_) fun _ _ e => e
  obtain ⟨v, rfl, hq⟩ := hr'
  ksp_lk
  exact hq
end

/-! ### own ==, != ; an int == own -/
section
open PySem.W
variable {prog : Program} {w : World} {A : Around} {E : Value → Shared → Prop} {s : Shared} {K : Frag} {x y C L f dx : Addr} {h₀ : Heap} {m : Str → Option Value} {od : Option Obj} {ox : Obj}
theorem check_own {M : Model} {id owner n : String} {rest : List Value} {Q : Unit → Shared → Prop} (hk : builtinKind id = some .slot) (hs : splitId id = some (owner, n)) (ha : argsOk id ⟨.ref x :: rest, []⟩)
    (X : K.In s.heap) (J : InstAt s.heap x ox C od) (hob : subIn K (.ref C) (.type owner) = some true) (hq : Q () s) : wpAny M A (checkBuiltinCall id ⟨.ref x :: rest, []⟩) Q E s := by
  simp only [checkBuiltinCall, hk, hs]
  refine wpAny_bind ?_
  unfold isInstance
  refine wpAny_bind (m := typeOf (.ref x)) (J.type.here ((looks_subIn X hob).here ?_))
  simp only [Bool.not_true, Bool.false_eq_true, if_false]
  cases hsig : Manifest.signature? id with
  | none => exact wpAny_pure hq
  | some sig =>
    simp only [argsOk, hsig] at ha
    have h2 : Bind.checkArgs id sig ⟨.ref x :: rest, []⟩ = pure () := ha
    show wpAny M A (Bind.checkArgs id sig ⟨.ref x :: rest, []⟩) Q E _
    rw [h2]; exact wpAny_pure hq
theorem ifBound_B {M : Model} {name : Str} {T id : String} {args : List Value} {Q : Option Value → Shared → Prop} (X : K.In s.heap) (I : InstAt s.heap x ox C od) (hs : findIn K (.ref C) name = some (some (.builtin id))) (S : Slot T name id)
    (h : wpAny M A (call (.builtin id) (.ref x :: args)) (fun v => Q (some v)) E s) : wpAny M A (callSpecialIfBound? (.ref x) name args) Q E s := by
  simp only [callSpecialIfBound?, bindSpecialIfBound?]
  refine wpAny_holding (wpAny_bind (wpAny_bind (wpAny_bind (I.type.here ((looks_findIn X hs).here ?_)))))
  simp only [S.bind]
  refine wpAny_bind (wpAny_askSetting (wpAny_ite ?_))
  have fin : wpAny M A (call (.builtin id) ([.ref x] ++ args) >>= fun v => pure (some v)) Q E s := wpAny_bind (wpAny_mono h (fun v s' h' => wpAny_pure h') fun _ _ h' => h')
  split
  · exact wpAny_bind (wpAny_pure (wpAny_pure fin))
  · exact wpAny_tryCatch (wpAny_bind (wpAny_pure (wpAny_pure fin)))
theorem objNe_own {b : Value} (X : K.In s.heap) (I : InstAt s.heap x ox C od) (hs : findIn K (.ref C) "__eq__" = some (some (.ref f))) (hf : isFn K (.ref f) = true) (hu : A.units < cLine) {Q : Fin → Shared → Prop}
    (hcall : wpAny (model prog w) A (call (.ref f) [.ref x, b]) (fun v s' => ∃ k, v = .bool k ∧ Q (.done (.ret (.bool (!k)))) s') E s) :
    wpAny (model prog w) A (Builtin.«object.__ne__» ⟨[.ref x, b], []⟩) Q E s := by
  unfold Builtin.«object.__ne__»
  repeat (first
    | with_reducible refine wpAny_cRoomFor hu ?_
    | (refine wpAny_bind (m := callSpecialIfBound? (.ref x) (Str.ofString "__eq__") [b])
        (ifBound_K X I hs hf (wpAny_mono hcall (fun r s' hr => by
          obtain ⟨b, rfl, hq⟩ := hr
          repeat (first | exact hq | exact wpAny_pure hq | exact wpAny_truthy_bool hq | (refine wpAny_bind (m := truthy (.bool _)) (wpAny_truthy_bool ?_)) | wp_step)) fun _ _ e => e)))
    | wp_step)
theorem cmp_ne_own {b tb : Value} {Q : Value → Shared → Prop} (hu : A.units + 1 < cLine) (X : K.In s.heap) (I : InstAt s.heap x ox C od) (hb : Looks (model prog w) s.heap (typeOf b) tb) (hn : notFirst K C tb = true)
    (hne : findIn K (.ref C) "__ne__" = some (some (.builtin "object.__ne__"))) (hob : subIn K (.ref C) (.type "object") = some true) (hs : findIn K (.ref C) "__eq__" = some (some (.ref f))) (hf : isFn K (.ref f) = true)
    (h : wpAny (model prog w) A.in1 (call (.ref f) [.ref x, b]) (fun v s' => ∃ k, v = .bool k ∧ Q (.bool (!k)) s') E s) : wpAny (model prog w) A (richCompare .NotEq (.ref x) b) Q E s := by
  have one : wpAny (model prog w) A (tryCompare (.ref x) "__ne__" b) (fun r s' => ∃ v, r = some v ∧ Q v s') E s := by
    unfold tryCompare
    refine wpAny_bind (ifBound_B X I hne F.cmp_object.ne (wpAny_call (codeAny_call_builtin F.cmp_object.ne.plain F.cmpEntry_ne (check_own F.cmpKind_ne F.cmpSplit_ne (F.cmpArgs_ne _ _) X I hob ?_))))
    refine objNe_own (A := A.in1) X I hs hf hu (wpAny_mono h (fun v s' hv => ?_) fun _ _ e => e)
    obtain ⟨k, rfl, hq⟩ := hv
    exact ⟨k, rfl, wpAny_pure ⟨_, rfl, hq⟩⟩
  unfold richCompare
  simp only [oneThing_ref]
  refine wpAny_holding (wpAny_bind (wpAny_cRoomFor (Nat.lt_of_succ_lt hu) ?_))
  refine wpAny_bind (I.type.here (wpAny_bind (hb.here ?_)))
  split
  · rename_i q
    have e : subIn K tb (.ref C) = some false := by
      rcases Bool.or_eq_true_iff.mp hn with e | e
      · rw [beq_iff_eq.mp e] at q; simp at q
      · exact beq_iff_eq.mp e
    refine wpAny_bind ((looks_subIn X e).here ?_)
    simp only [Bool.false_eq_true, if_false]
    refine wpAny_bind (wpAny_mono one (fun r s' z => ?_) fun _ _ e => e)
    obtain ⟨v, rfl, hq⟩ := z
    exact wpAny_pure hq
  · refine wpAny_bind (wpAny_pure ?_)
    simp only [Bool.false_eq_true, if_false]
    refine wpAny_bind (wpAny_mono one (fun r s' z => ?_) fun _ _ e => e)
    obtain ⟨v, rfl, hq⟩ := z
    exact wpAny_pure hq
/-- an int == own -/
theorem cmp_eq_refl {i : Int} {t : Tok} {Q : Value → Shared → Prop} (hu : A.units < cLine) (X : K.In s.heap) (I : InstAt s.heap y (instObj C dx) C od) (hsub : subIn K (.ref C) (.type "int") = some false)
    (hs : findIn K (.ref C) "__eq__" = some (some (.ref f))) (hf : isFn K (.ref f) = true)
    (h : wpAny (model prog w) A (call (.ref f) [.ref y, .int i t]) (PySem.W.CmpBack Q) E s) : wpAny (model prog w) A (richCompare .Eq (.int i t) (.ref y)) Q E s := by
  have one : wpAny (model prog w) A (tryCompare (.ref y) "__eq__" (.int i t)) (fun r s' => ∃ v, r = some v ∧ Q v s') E s := by
    unfold tryCompare
    refine wpAny_bind (ifBound_K X I hs hf (wpAny_mono h (fun v s' hv => ?_) fun _ _ e => e))
    cases v <;> first | exact hv.elim | exact wpAny_pure ⟨_, rfl, hv⟩
  unfold richCompare
  rw [show oneThing? .Eq (.int i t) (.ref y) = none from rfl]
  refine wpAny_holding (wpAny_bind (wpAny_cRoomFor hu ?_))
  dsimp only
  refine wpAny_bind ((Looks.of_pure (M := model prog w) (h := s.heap) (t := typeOf (.int i t)) (r := .type "int") rfl).here (wpAny_bind (I.type.here ?_)))
  rw [if_pos (show ((Value.type "int" != Value.ref C) = true) from rfl)]
  refine wpAny_bind ((looks_subIn X hsub).here ?_)
  simp only [Bool.false_eq_true, if_false]
  refine wpAny_bind (wpAny_tryCompare_declines (typeIs_int s i t) F.slot_int_eq (call_meets F.slot_int_eq (typeIs_int s i t) F.entry_int_eq (F.args_int_eq_2 _ _) (int_eq_plain i t y C dx) ⟨I.at_, rfl, ?_⟩))
  simp only [Bool.not_false, if_true]
  refine wpAny_bind (wpAny_mono one (fun r s' z => ?_) fun _ _ e => e)
  obtain ⟨v, rfl, hq⟩ := z
  exact wpAny_pure hq
end

/-! ### the same over the layer -/
section
variable {X : Cx} {CX : CXT} {k : Nat} {C f f0 : Addr} {fd : FuncData} {ps : List Str} {sp : Sp} {E : XK}
/-- what a class must show for int + own -/
structure Refl (K : PySem.W.Frag) (C f0 f : Addr) (nm : String) (fo ro : Option Value) : Prop where
  first : PySem.W.selfFirst K C = true
  fwd : PySem.W.findIn K (.ref C) (PySem.dunder nm) = some (some (.ref f0))
  rev : PySem.W.findIn K (.ref C) (dunderR nm) = some (some (.ref f))
  fn : PySem.W.isFn K (.ref f) = true
  i1 : PySem.W.findIn K (.type "int") (PySem.dunder nm) = some fo
  i2 : PySem.W.findIn K (.type "int") (dunderR nm) = some ro
  fill : ((fo.isSome && !isSeqSlot fo) || (ro.isSome && !isSeqSlot ro)) = true
  sub : PySem.W.subIn K (.ref C) (.type "int") = some false
def rRefl (C : Addr) (sp : Sp) (E : XK) : R2 := fun x y H Q => ∃ i b dy gs, x = .int i ∧ y = .ref b ∧ H b = some (.ins C dy gs) ∧ sp [y, x] H Q E
theorem op_reflG {op : Operator} {id : String} {B : Builtin} {fo ro : Option Value} (R : Refl X.K C f0 f op.info.2 fo ro) (S : Slot "int" (PySem.dunder op.info.2) id) (en : entryFor table id = some B) (ag : ∀ a b : Value, argsOk id ⟨[a, b], []⟩)
    (mt : ∀ (a : Int) (t : Tok) (l C dx : Addr), Meets (B ⟨[.int a t, .ref l], []⟩) (fun _ R s => s.heap.get? l = some (PySem.W.instObj C dx) ∧ R (.ok (.ret Value.notImplemented)) s))
    (F : FnOk X.prog X.w X.K X.mg X.base CX k f fd ps sp) (hr : Room k X.A) (hb : Binds X.K fd ps []) (hx : Passes CX X E) : OpR X (binaryOp op) (rRefl C sp E) := by
  intro pins s σ H x y v u Q I rx ry h
  obtain ⟨i, b, dy, gs, rfl, rfl, hb', h⟩ := h
  obtain ⟨t, rfl⟩ := rx
  obtain rfl : u = Value.ref b := ry
  obtain ⟨od, J⟩ := inst_of I hb'
  obtain ⟨m, Fr⟩ := I.fr
  refine bin_refl (f0 := f0) Fr I.mod.kin J R.first R.fwd R.rev R.fn R.i1 R.i2 R.fill R.sub (fun Q' q => ?_) (wpAny_mono (run_fn (us := [.ref b, .int i t]) (vs := [.ref b, .int i]) F hr hb .nil hx I (.cons rfl (.cons ⟨t, rfl⟩ .nil)) h) (fun _ _ q => back_of q) fun _ _ e => e)
  exact wpAny_tryMethod_declines (typeIs_int s i t) S (call_meets S (typeIs_int s i t) en (ag _ _) (mt i t b C dy) ⟨J.at_, rfl, q⟩)
theorem op_reflAdd {fo ro : Option Value} (R : Refl X.K C f0 f "add" fo ro) (F : FnOk X.prog X.w X.K X.mg X.base CX k f fd ps sp) (hr : Room k X.A) (hb : Binds X.K fd ps []) (hx : Passes CX X E) : OpR X (binaryOp .Add) (rRefl C sp E) :=
  op_reflG (op := .Add) R PySem.F.slot_int_add PySem.F.entry_int_add PySem.F.args_int_add_2 int_add_plain F hr hb hx
theorem op_reflSub {fo ro : Option Value} (R : Refl X.K C f0 f "sub" fo ro) (F : FnOk X.prog X.w X.K X.mg X.base CX k f fd ps sp) (hr : Room k X.A) (hb : Binds X.K fd ps []) (hx : Passes CX X E) : OpR X (binaryOp .Sub) (rRefl C sp E) :=
  op_reflG (op := .Sub) R PySem.F.slot_int_sub PySem.F.entry_int_sub PySem.F.args_int_sub_2 int_sub_plain F hr hb hx
theorem op_reflMul {fo ro : Option Value} (R : Refl X.K C f0 f "mul" fo ro) (F : FnOk X.prog X.w X.K X.mg X.base CX k f fd ps sp) (hr : Room k X.A) (hb : Binds X.K fd ps []) (hx : Passes CX X E) : OpR X (binaryOp .Mult) (rRefl C sp E) :=
  op_reflG (op := .Mult) R PySem.F.slot_int_mul PySem.F.entry_int_mul PySem.F.args_int_mul_2 int_mul_plain F hr hb hx

/-- a def called one C unit deeper (out of a built-in) -/
theorem run_fn1 {pins : List (Addr × Obj)} {σ : L2.St} {H : Hp} {s : Shared} {Q : VK} {us : List Value} {vs : List V} {dvs : List V} {ds : List Value} (F : FnOk X.prog X.w X.K X.mg X.base CX k f fd ps sp) (hr : Room (k + 1) X.A) (hb : Binds X.K fd ps ds) (hd : Vals dvs ds) (hx : Passes CX X E)
    (I : Inv X pins σ H s) (r : Vals vs us) (h : sp (vs ++ dvs) H Q E) : wpAny (model X.prog X.w) X.A.in1 (call (.ref f) us) (EP X pins σ Q) X.xe s := by
  have r2 : Vals (vs ++ dvs) (us ++ ds) := r.append hd
  have hl : (us ++ ds).length = ps.length := by rw [← r2.length]; exact F.len _ _ _ _ h
  refine wpAny_call (codeAny_mono (F.run X.A.in1 X.stack s H ⟨us, []⟩ (us ++ ds) (vs ++ dvs) Q E hr.in1 I.env0.in1 (hb s us I.kIn hl) r2 h) fun r s' hq => ?_)
  cases r with
  | error e => exact hx pins σ H s e s' I hq
  | ok fl =>
    cases fl with
    | ret u => exact I.after hq
    | next => exact False.elim hq
    | brk => exact False.elim hq
    | cont => exact False.elim hq

/-- own == y, y of any known type -/
def rEqOwn (K : PySem.W.Frag) (C : Addr) (sp : Sp) (E : XK) : R2 := fun x y H Q => ∃ a dx fs t, x = .ref a ∧ H a = some (.ins C dx fs) ∧ TyX K H y t ∧ PySem.W.notFirst K C t = true ∧ sp [x, y] H Q E
theorem op_eqOwn (o : OwnOp X.K C f "__eq__") (F : FnOk X.prog X.w X.K X.mg X.base CX k f fd ps sp) (hr : Room k X.A) (hb : Binds X.K fd ps []) (hx : Passes CX X E) : OpR X (compareOp .Eq) (rEqOwn X.K C sp E) := by
  intro pins s σ H x y v u Q I rx ry h
  obtain ⟨a, dx, fs, t, rfl, ha, ty, nf, h⟩ := h
  obtain rfl : v = Value.ref a := rx
  obtain ⟨od, J⟩ := inst_of I ha
  obtain ⟨m, Fr⟩ := I.fr
  obtain ⟨P, Z, p, _⟩ := kit_of I ry ty
  unfold compareOp
  exact PySem.W.cmp_K hr.units0 Fr I.mod.kin J (Z.ty _ _ I.kIn p) nf o.at_ o.fn (wpAny_mono (run_fn (us := [.ref a, u]) (vs := [.ref a, y]) F hr hb .nil hx I (.cons rfl (.cons ry .nil)) h) (fun _ _ q => back_of q) fun _ _ e => e)
/-- own != y by the own ==, which answers a truth -/
def rNeOwn (K : PySem.W.Frag) (C : Addr) (sp : Sp) (E : XK) : R2 := fun x y H Q => ∃ a dx fs t, x = .ref a ∧ H a = some (.ins C dx fs) ∧ TyX K H y t ∧ PySem.W.notFirst K C t = true ∧ sp [x, y] H (fun v H' => ∃ b, v = .bl b ∧ Q (.bl (!b)) H') E
theorem op_neOwn (o : OwnOp X.K C f "__eq__") (hne : PySem.W.findIn X.K (.ref C) "__ne__" = some (some (.builtin "object.__ne__"))) (hob : PySem.W.subIn X.K (.ref C) (.type "object") = some true)
    (F : FnOk X.prog X.w X.K X.mg X.base CX k f fd ps sp) (hr : Room (k + 1) X.A) (hb : Binds X.K fd ps []) (hx : Passes CX X E) : OpR X (compareOp .NotEq) (rNeOwn X.K C sp E) := by
  intro pins s σ H x y v u Q I rx ry h
  obtain ⟨a, dx, fs, t, rfl, ha, ty, nf, h⟩ := h
  obtain rfl : v = Value.ref a := rx
  obtain ⟨od, J⟩ := inst_of I ha
  obtain ⟨P, Z, p, _⟩ := kit_of I ry ty
  unfold compareOp
  refine cmp_ne_own (hu_of hr) I.kIn J (Z.ty _ _ I.kIn p) nf hne hob o.at_ o.fn (wpAny_mono (run_fn1 (us := [.ref a, u]) (vs := [.ref a, y]) F hr hb .nil hx I (.cons rfl (.cons ry .nil)) h) (fun z s' q => ?_) fun _ _ e => e)
  obtain ⟨v, H', I', r, b, rfl, q⟩ := q
  obtain rfl : z = Value.bool b := r
  exact ⟨b, rfl, .bl (!b), H', I', rfl, q⟩
/-- an int == own -/
theorem op_eqRefl (o : OwnOp X.K C f "__eq__") (hsub : PySem.W.subIn X.K (.ref C) (.type "int") = some false) (F : FnOk X.prog X.w X.K X.mg X.base CX k f fd ps sp) (hr : Room k X.A) (hb : Binds X.K fd ps []) (hx : Passes CX X E) : OpR X (compareOp .Eq) (rRefl C sp E) := by
  intro pins s σ H x y v u Q I rx ry h
  obtain ⟨i, b, dy, gs, rfl, rfl, hb', h⟩ := h
  obtain ⟨t, rfl⟩ := rx
  obtain rfl : u = Value.ref b := ry
  obtain ⟨od, J⟩ := inst_of I hb'
  unfold compareOp
  exact cmp_eq_refl hr.units0 I.kIn J hsub o.at_ o.fn (wpAny_mono (run_fn (us := [.ref b, .int i t]) (vs := [.ref b, .int i]) F hr hb .nil hx I (.cons rfl (.cons ⟨t, rfl⟩ .nil)) h) (fun _ _ q => back_of q) fun _ _ e => e)

/-- * of two ints whose product the model takes -/
theorem op_mulM : OpR X (binaryOp .Mult) (rI IntMulOk fun i j => .int (i * j)) := opI fun _ _ _ _ _ _ _ hc q => mul_int q hc
/-- // by any divisor but 0, below 2 ^ 9000 in size -/
def CDivX (_ j : Int) : Prop := j ≠ 0 ∧ j.natAbs.log2 < 9000
theorem op_fdivX : OpR X (binaryOp .FloorDiv) (rI CDivX fun i j => .int (i.fdiv j)) := opI fun i j _ _ _ _ _ hc q => floordiv_int hc.1 q (.inl (PyProof.noPylong_of_log2 hc.2))
end

/-! ### o.m(.., k = v, ..) -/
def tMethN (C : Addr) (m : Str) (n mk : Nat) (sp : Sp) (gV : List V → List V → List V) (E : XK) (ta : TE) (t tk : TA) : TE := fun σ H Q => ta σ H fun x H1 => ∃ a dx fs, x = .ref a ∧ H1 a = some (.ins C dx fs) ∧ fs.lookup m = none ∧
  t σ H1 fun vs H2 => tk σ H2 fun zs H3 => vs.length = n ∧ zs.length = mk ∧ sp (gV (x :: vs) zs) H3 Q E
section
variable {X : Cx} {CX : CXT} {k n : Nat} {f C : Addr} {fd : FuncData} {ps ks : List Str} {sp : Sp} {E : XK} {m : Str} {p pos apos : Pos} {e o : Expr} {es : List Expr} {kws : List Keyword} {ta : TE} {t tk : TA} {g : List Value → List Value → List Value} {gV : List V → List V → List V}
/-- o.m(k = v, ..) -/
theorem pe_methK0 {pl : Sem Bool} (he : PE X o ta) (c : Cls X.K C) (hm : Meth X.K C m f) (F : FnOk X.prog X.w X.K X.mg X.base CX k f fd ps sp) (hr : Room k X.A) (hb : KBn X.K fd ps 1 ks g gV) (hx : Passes CX X E) (hkw : PK X kws tk)
    (hall : (backToKw pos (keywordEach kws X.env)).all (·.1.isSome) = true := by rfl) (hks : (backToKw pos (keywordEach kws X.env)).filterMap (·.1) = ks := by rfl)
    (hpl : ((backTo pos (starEach [] X.env)).any (·.1) || (backToKw pos (keywordEach kws X.env)).any (·.1.isNone)) = false := by rfl)
    (ht : eval (.Call (.Attribute o m apos) [] kws pos) X.env = (do
      let ov ← eval o X.env
      standAt apos.atName
      let (f, first) ← holding [ov] (getMethod ov m pl)
      callWith pos f first (backTo pos (starEach [] X.env)) (backToKw pos (keywordEach kws X.env))) := by rfl) :
    PE X (.Call (.Attribute o m apos) [] kws pos) (tMethN C m 0 ks.length sp gV E ta tNil tk) := by
  refine ⟨fun pins s σ H Q I h => ?_⟩
  refine PySem.W.methodCall_KW (pl := pl) (thn (he.run pins s σ H _ I h) fun u s1 ⟨x, H1, I1, rx, a, dx, fs, ex, ea, l, q⟩ => ?_) ht
  subst ex
  obtain rfl : u = Value.ref a := rx
  refine getmeth_ok I1 ea c hm l ?_
  refine PySem.W.callWith_KW0 (first := [.ref a]) (h₀ := X.base) I.ok.mod.kin hm.kp hall ?_ hpl
  refine thn (hkw.run pos pins s1 σ H1 _ I1 q) fun ws s2 ⟨zs, H2, I2, rz, l1, l2, q2⟩ => ⟨I2.kIn, ?_⟩
  rw [hks]
  exact run_fnN (us := [.ref a]) (vs := [.ref a]) F hr hb hx I2 (.cons rfl .nil) rz rfl l2 q2
/-- o.m(e, .., k = v, ..) -/
theorem pe_methK {pl : Sem Bool} (he : PE X o ta) (c : Cls X.K C) (hm : Meth X.K C m f) (F : FnOk X.prog X.w X.K X.mg X.base CX k f fd ps sp) (hr : Room k X.A) (hb : KBn X.K fd ps (n + 1) ks g gV) (hx : Passes CX X E) (ha : PA X (e :: es) t) (hkw : PK X kws tk)
    (hall : (backToKw pos (keywordEach kws X.env)).all (·.1.isSome) = true := by rfl) (hks : (backToKw pos (keywordEach kws X.env)).filterMap (·.1) = ks := by rfl)
    (hst : starEach (e :: es) X.env = (false, eval e X.env) :: starEach es X.env := by rfl)
    (hpl : ((backTo pos (starEach (e :: es) X.env)).any (·.1) || (backToKw pos (keywordEach kws X.env)).any (·.1.isNone)) = false := by rfl)
    (ht : eval (.Call (.Attribute o m apos) (e :: es) kws pos) X.env = (do
      let ov ← eval o X.env
      standAt apos.atName
      let (f, first) ← holding [ov] (getMethod ov m pl)
      callWith pos f first (backTo pos (starEach (e :: es) X.env)) (backToKw pos (keywordEach kws X.env))) := by rfl) :
    PE X (.Call (.Attribute o m apos) (e :: es) kws pos) (tMethN C m n ks.length sp gV E ta t tk) := by
  refine ⟨fun pins s σ H Q I h => ?_⟩
  refine PySem.W.methodCall_KW (pl := pl) (thn (he.run pins s σ H _ I h) fun u s1 ⟨x, H1, I1, rx, a, dx, fs, ex, ea, l, q⟩ => ?_) ht
  subst ex
  obtain rfl : u = Value.ref a := rx
  refine getmeth_ok I1 ea c hm l ?_
  refine PySem.W.callWith_KW (first := [.ref a]) (h₀ := X.base) I.ok.mod.kin hm.kp hall (thn (ha.run pos pins s1 σ H1 _ I1 q) fun us s2 ⟨vs, H2, I2, r, q2⟩ => ?_) hpl hst
  refine thn (hkw.run pos pins s2 σ H2 _ I2 q2) fun ws s3 ⟨zs, H3, I3, rz, l1, l2, q3⟩ => ⟨I3.kIn, ?_⟩
  rw [hks]
  exact run_fnN (us := .ref a :: us) (vs := .ref a :: vs) F hr hb hx I3 (.cons rfl r) rz (congrArg Nat.succ l1) l2 q3
end
end SL

set_option Elab.async false
set_option linter.all false
set_option maxRecDepth 100000
set_option maxHeartbeats 4000000
namespace SL
open PySem L2 PySem.Spec PyProof.Rows

/-! ### steps of a reading: each lemma is a rule from the goal's head -/
section go
variable {K : PySem.W.Frag} {D : Ends} {σ : L2.St} {H : Hp} {Q : VK} {te ta tb tv : TE} {t t1 t2 : TS} {tt uu : TT} {tA : TA} {tr : TA} {v x y : V} {i j : Nat} {r : R2} {g : TG} {E : XK}
theorem go_seq (h : t1 { D with nx := t2 D } σ H) : tSeq t1 t2 D σ H := h
theorem go_next (h : D.nx σ H) : tNext D σ H := h
theorem go_asg (h : te σ H fun x H1 => g x σ H1 D.nx) : tAsg te g D σ H := h
theorem go_gname {Q : L2.St → Hp → Prop} (h : Q (σ.set i (some v)) H) : gName i v σ H Q := h
theorem go_ret (h : te σ H D.rt) : tRet te D σ H := h
theorem go_retN (h : D.rt .non H) : tRetN D σ H := h
theorem go_drop (h : te σ H fun _ H1 => D.nx σ H1) : tDrop te D σ H := h
theorem go_ifs {c : TT} (h : c σ H fun b H1 => if b = true then t1 D σ H1 else t2 D σ H1) : tIfS c t1 t2 D σ H := h
theorem go_var (e : σ[i]? = some (some v)) (h : Q v H) : tVar i σ H Q := ⟨v, e, h⟩
theorem go_c (h : Q v H) : tC v σ H Q := h
theorem go_op (h : ta σ H fun x H1 => tb σ H1 fun y H2 => r x y H2 Q) : tOp r ta tb σ H Q := h
theorem go_un {r : V → Hp → VK → Prop} (h : ta σ H fun x H1 => r x H1 Q) : tUn r ta σ H Q := h
theorem go_I0 {g : Int → Int → V} {i j : Int} (h : Q (g i j) H) : rI0 g (.int i) (.int j) H Q := ⟨i, j, rfl, rfl, h⟩
theorem go_I {C : Int → Int → Prop} {g : Int → Int → V} {i j : Int} (c : C i j) (h : Q (g i j) H) : rI C g (.int i) (.int j) H Q := ⟨i, j, rfl, rfl, c, h⟩
theorem go_U {g : Int → V} {i : Int} (h : Q (g i) H) : rU g (.int i) H Q := ⟨i, rfl, h⟩
theorem go_test {Q : Bool → Hp → Prop} (h : te σ H fun x H' => ∃ k, x = .bl k ∧ Q k H') : tTest te σ H Q := h
theorem go_tb {Q : Bool → Hp → Prop} (h : te σ H fun x H' => ∃ k, x = .bl k ∧ Q k H') : tB te σ H Q := h
theorem go_bl {b : Bool} {R : Bool → Prop} (h : R b) : ∃ k, V.bl b = .bl k ∧ R k := ⟨b, rfl, h⟩
theorem go_eqI {i j : Int} (h : Q (.bl (decide (i = j))) H) : rEq (.int i) (.int j) H Q := by
  refine ⟨rfl, ?_⟩
  rw [show decide (V.int i = V.int j) = decide (i = j) by rw [dec_int]; by_cases e : i = j <;> simp [e]]
  exact h
theorem go_neI {i j : Int} (h : Q (.bl (!decide (i = j))) H) : rNe (.int i) (.int j) H Q := by
  refine ⟨rfl, ?_⟩
  rw [show decide (V.int i = V.int j) = decide (i = j) by rw [dec_int]; by_cases e : i = j <;> simp [e]]
  exact h
theorem go_eqB {i j : Bool} (h : Q (.bl (decide (i = j))) H) : rEq (.bl i) (.bl j) H Q := by
  refine ⟨rfl, ?_⟩
  rw [show decide (V.bl i = V.bl j) = decide (i = j) by rw [dec_bl]; cases i <;> cases j <;> rfl]
  exact h
theorem go_neB {i j : Bool} (h : Q (.bl (!decide (i = j))) H) : rNe (.bl i) (.bl j) H Q := by
  refine ⟨rfl, ?_⟩
  rw [show decide (V.bl i = V.bl j) = decide (i = j) by rw [dec_bl]; cases i <;> cases j <;> rfl]
  exact h
theorem go_eqS {i j : Str} (h : Q (.bl (decide (i = j))) H) : rEq (.str i) (.str j) H Q := by
  refine ⟨rfl, ?_⟩
  rw [show decide (V.str i = V.str j) = decide (i = j) by by_cases e : i = j <;> simp [e]]
  exact h
theorem go_neS {i j : Str} (h : Q (.bl (!decide (i = j))) H) : rNe (.str i) (.str j) H Q := by
  refine ⟨rfl, ?_⟩
  rw [show decide (V.str i = V.str j) = decide (i = j) by by_cases e : i = j <;> simp [e]]
  exact h
theorem go_and {Q : Bool → Hp → Prop} (h : tt σ H fun c H1 => if c = true then uu σ H1 Q else Q false H1) : tAnd tt uu σ H Q := h
theorem go_or {Q : Bool → Hp → Prop} (h : tt σ H fun c H1 => if c = true then Q true H1 else uu σ H1 Q) : tOr tt uu σ H Q := h
theorem go_not {Q : Bool → Hp → Prop} (h : tt σ H fun c H1 => Q (!c) H1) : tNot tt σ H Q := h
theorem go_andV (h : ta σ H fun x H1 => ∃ c, x = .bl c ∧ if c = true then tb σ H1 Q else Q (.bl false) H1) : tAndV ta tb σ H Q := h
theorem go_orV (h : ta σ H fun x H1 => ∃ c, x = .bl c ∧ if c = true then Q (.bl true) H1 else tb σ H1 Q) : tOrV ta tb σ H Q := h
theorem go_notV (h : ta σ H fun x H1 => ∃ c, x = .bl c ∧ Q (.bl (!c)) H1) : tNotV ta σ H Q := h
theorem go_if (h : tt σ H fun c H1 => if c = true then ta σ H1 Q else tb σ H1 Q) : tIf tt ta tb σ H Q := h
theorem go_T {A B : Prop} (h : A) : if true = true then A else B := iteT h
theorem go_F {A B : Prop} (h : B) : if false = true then A else B := iteF h
theorem go_nT {A B : Prop} (h : B) : if (!true) = true then A else B := iteF h
theorem go_nF {A B : Prop} (h : A) : if (!false) = true then A else B := iteT h
theorem go_d {p A B : Prop} [Decidable p] (h1 : p → A) (h2 : ¬ p → B) : if decide p = true then A else B := by
  by_cases h : p
  · rw [if_pos (decide_eq_true h)]; exact h1 h
  · rw [if_neg (by simp [h])]; exact h2 h
theorem go_dn {p A B : Prop} [Decidable p] (h1 : ¬ p → A) (h2 : p → B) : if (!decide p) = true then A else B := by
  by_cases h : p
  · rw [if_neg (by simp [h])]; exact h2 h
  · rw [if_pos (by simp [h])]; exact h1 h
theorem go_dT {p A B : Prop} [Decidable p] (hp : p) (h : A) : if decide p = true then A else B := by rw [if_pos (decide_eq_true hp)]; exact h
theorem go_dF {p A B : Prop} [Decidable p] (hp : ¬ p) (h : B) : if decide p = true then A else B := by rw [if_neg (by simp [hp])]; exact h
theorem go_dnT {p A B : Prop} [Decidable p] (hp : p) (h : B) : if (!decide p) = true then A else B := by rw [if_neg (by simp [hp])]; exact h
theorem go_dnF {p A B : Prop} [Decidable p] (hp : ¬ p) (h : A) : if (!decide p) = true then A else B := by rw [if_pos (by simp [hp])]; exact h
theorem go_b {b : Bool} {A B : Prop} (h1 : b = true → A) (h2 : b = false → B) : if b = true then A else B := by
  cases b with
  | true => exact iteT (h1 rfl)
  | false => exact iteF (h2 rfl)
theorem go_join {P : V → Prop} {b : Bool} (h1 : b = true → ∀ R : VK, (∀ v, P v → R v H) → ta σ H R) (h2 : b = false → ∀ R : VK, (∀ v, P v → R v H) → tb σ H R) (k : ∀ v, P v → Q v H) : if b = true then ta σ H Q else tb σ H Q := by
  cases b with
  | true => exact iteT (h1 rfl Q k)
  | false => exact iteF (h2 rfl Q k)
theorem go_nn {b : Bool} {A B : Prop} (h : if b = true then A else B) : if (!(!b)) = true then A else B := by rw [Bool.not_not]; exact h
theorem go_nil {Q : List V → Hp → Prop} (h : Q [] H) : tNil σ H Q := h
theorem go_cons {Q : List V → Hp → Prop} (h : te σ H fun x H1 => tr σ H1 fun xs H2 => Q (x :: xs) H2) : tCons te tr σ H Q := h
theorem go_call {sp : Sp} {dvs : List V} (h : tA σ H fun vs H1 => sp (vs ++ dvs) H1 Q E) : tCall sp dvs E tA σ H Q := h
theorem go_cb {r : List V → Hp → VK → Prop} (h : tA σ H fun vs H1 => r vs H1 Q) : tCB r tA σ H Q := h
theorem go_par {i j : Nat} (h : tA σ H fun vs H1 => ∃ v w, vs = [v, w] ∧ D.nx ((σ.set i (some v)).set j (some w)) H1) : tPar i j tA D σ H := h
theorem go_pair {a b : V} {P : V → V → Prop} (h : P a b) : ∃ v w, [a, b] = [v, w] ∧ P v w := ⟨a, b, rfl, h⟩
end go

/-! ### heaps that grow -/
theorem Same.at {H H' : Hp} {a : Addr} {o : HO} (e : L2.Same H H') (h : H a = some o) : H' a = some o := e a o h
theorem Same.new {H : Hp} {p : Addr} {o : HO} (h : H p = none) : L2.Same H (upd H p o) := fun a u e => by rw [upd_ne (ne_of_none e h)]; exact e
theorem Same.new' {H H' : Hp} {p : Addr} {o : HO} (h : H p = none) (q : upd H p o = H') : L2.Same H H' := q ▸ Same.new h
/-- an object that H does not know may change -/
theorem Same.mut {H H' : Hp} {p : Addr} {o : HO} (e : L2.Same H H') (h : H p = none) : L2.Same H (upd H' p o) := fun a u ha => by
  rw [upd_ne (ne_of_none ha h)]
  exact e a u ha
theorem at_new {H H' : Hp} {p : Addr} {o : HO} (q : upd H p o = H') : H' p = some o := q ▸ upd_same
theorem szL {n : Nat} (h : n ≤ 1000) : n ≤ sizeLine := Nat.le_of_lt (small1000 h)
/-- a new object at a free place -/
theorem new_ok {H : Hp} {o : HO} {R : Addr → Hp → Prop} (h : ∀ p H', H p = none → L2.Same H H' → H' p = some o → R p H') : ∀ p, H p = none → R p (upd H p o) := fun p hp => h p _ hp (Same.new hp) upd_same
section go2
variable {K : PySem.W.Frag} {D : Ends} {σ : L2.St} {H : Hp} {Q : VK} {te ta tb tv : TE} {tA : TA} {v x y : V} {i j : Nat} {E : XK}
theorem go_tup (h : tA σ H fun xs H1 => xs.length ≤ sizeLine ∧ ∀ p, H1 p = none → Q (.ref p) (upd H1 p (.tup xs))) : tTup tA σ H Q := h
theorem go_lst (h : tA σ H fun xs H1 => xs.length ≤ sizeLine ∧ ∀ p, H1 p = none → Q (.ref p) (upd H1 p (.lst xs))) : tLst tA σ H Q := h
theorem go_newT {xs : List V} (hl : xs.length ≤ 1000) (h : ∀ p H', H p = none → L2.Same H H' → H' p = some (.tup xs) → Q (.ref p) H') : xs.length ≤ sizeLine ∧ ∀ p, H p = none → Q (.ref p) (upd H p (.tup xs)) :=
  ⟨Nat.le_of_lt (small1000 hl), new_ok (R := fun p H' => Q (.ref p) H') h⟩
theorem go_newL {xs : List V} (hl : xs.length ≤ 1000) (h : ∀ p H', H p = none → L2.Same H H' → H' p = some (.lst xs) → Q (.ref p) H') : xs.length ≤ sizeLine ∧ ∀ p, H p = none → Q (.ref p) (upd H p (.lst xs)) :=
  ⟨Nat.le_of_lt (small1000 hl), new_ok (R := fun p H' => Q (.ref p) H') h⟩
theorem go_for {wi : TI} {g : TG} {tb : TS} (h : wi σ H fun J H1 => ∃ W : Nat → Nat → L2.St → Hp → Prop, (∃ m, W 0 m σ H1) ∧ ∀ i m σ H, W i m σ H →
  (J.stop i H ∧ D.nx σ H) ∨ (J.go i H ∧ ∃ N : L2.St → Hp → Prop, (∀ σ' H', N σ' H' → ∃ m', m' < m ∧ W (i + 1) m' σ' H') ∧ ∀ x H', J.yld i H x H' → g x σ H' fun σ2 H2 => tb { D with nx := N, ct := N, bk := D.nx } σ2 H2)) : tFor wi g tb D σ H := h
theorem go_iList {tl : TE} {R : It → Hp → Prop} (h : tl σ H fun x H1 => ∃ a, x = .ref a ∧ (∃ xs, SqL K H1 a xs) ∧ R (Itl K a) H1) : iList K tl σ H R := h
theorem go_iTup {tl : TE} {R : It → Hp → Prop} (h : tl σ H fun x H1 => ∃ a, x = .ref a ∧ (∃ xs, SqT K H1 a xs) ∧ R (Itt K a) H1) : iTup K tl σ H R := h
theorem go_iRng1 {R : It → Hp → Prop} (h : tA σ H fun vs H1 => ∃ j : Int, vs = [.int j] ∧ -(2 ^ 62) ≤ j ∧ j < 2 ^ 62 ∧ R (Itr 0 j.toNat) H1) : iRng1 tA σ H R := h
theorem go_iRng2 {R : It → Hp → Prop} (h : tA σ H fun vs H1 => ∃ i j : Int, vs = [.int i, .int j] ∧ (-(2 ^ 62) ≤ i ∧ i < 2 ^ 62 ∧ -(2 ^ 62) ≤ j ∧ j < 2 ^ 62) ∧ R (Itr i (j - i).toNat) H1) : iRng2 tA σ H R := h
theorem go_lc {wi : TI} {g : TG} {tt : TT} {vs : List Nat} (h : wi σ H fun J H1 => ∀ D, H1 D = none → ∃ W : Nat → Nat → Hp → Prop, (∃ m, W 0 m (upd H1 D (.lst []))) ∧ ∀ i m H, W i m H →
  (J.stop i H ∧ Q (.ref D) H) ∨ (J.go i H ∧ ∃ Nx : Hp → Prop, (∀ H', Nx H' → ∃ m', m' < m ∧ W (i + 1) m' H') ∧ ∀ x H', J.yld i H x H' → g x (wipe σ vs) H' fun σ2 H2 => wipe σ2 vs = wipe σ vs ∧ tt σ2 H2 fun b H3 =>
    if b = true then te σ2 H3 fun y H4 => ∃ acc, H4 D = some (.lst acc) ∧ acc.length < sizeLine ∧ Nx (upd H4 D (.lst (acc ++ [y]))) else Nx H3)) : tLc wi g tt te vs σ H Q := h
theorem go_yes {Q : Bool → Hp → Prop} (h : Q true H) : tYes σ H Q := h
/-- o.f of a class that is told -/
def tFldC (C : Addr) (ta : TE) (f : Str) : TE := fun σ H Q => ta σ H fun x H1 => ∃ a dx fs v, x = .ref a ∧ H1 a = some (.ins C dx fs) ∧ fs.lookup f = some v ∧ Q v H1
theorem pe_fldC {X : Cx} {C : Addr} {e : Expr} {f : Str} {pos : Pos} (c : Cls X.K C) (n : NoAttr X.K C f) (he : PE X e ta) (hb : attributeBase e f X.env (eval e X.env) = eval e X.env := by rfl) : PE X (.Attribute e f pos) (tFldC C ta f) :=
  ⟨fun pins s σ H Q I h => attr_of hb (thn (he.run pins s σ H _ I h) fun u s1 ⟨x, H1, I1, rx, a, dx, fs, v, ex, ea, l, q⟩ => by
    subst ex
    obtain rfl : u = Value.ref a := rx
    exact getattr_ok I1 ea c n l fun w s2 I2 r2 => ⟨v, H1, I2, r2, q⟩)⟩
/-- o.f = e of a class that is told -/
def sFldC (C : Addr) (ta tv : TE) (f : Str) : TS := fun D σ H => tv σ H fun y H1 => ta σ H1 fun x H2 => ∃ a dx fs, x = .ref a ∧ H2 a = some (.ins C dx fs) ∧ fs.length < 1000 ∧ D.nx σ (upd H2 a (.ins C dx (putF f y fs)))
theorem ps_fldC {X : Cx} {C : Addr} {o value : Expr} {f : Str} {pos pos' : Pos} (c : Cls X.K C) (n : NoAttr X.K C f) (ha : PE X o ta) (hv : PE X value tv) (hs : swapsWith value (some (.Attribute o f pos')) pos.line X.env = pure false := by rfl) :
    PS X (.Assign [.Attribute o f pos'] value pos) (sFldC C ta tv f) := by
  refine ⟨fun pins s σ H D I h => ?_⟩
  refine plainObj_wpAny_Assign_Attribute (thn (hv.run pins s σ H _ I h) fun u s1 ⟨y, H1, I1, ry, q⟩ => thn (ha.run pins s1 σ H1 _ I1 q) fun ov s2 ⟨x, H2, I2, rx, a, dx, fs, ex, ea, l, q2⟩ => ?_) hs
  subst ex
  obtain rfl : ov = Value.ref a := rx
  exact setattr_ok I2 ea c n l ry fun s3 I3 => ⟨σ, _, I3, q2⟩
theorem go_fldC {C : Addr} {f : Str} (h : ta σ H fun x H1 => ∃ a dx fs v, x = .ref a ∧ H1 a = some (.ins C dx fs) ∧ fs.lookup f = some v ∧ Q v H1) : tFldC C ta f σ H Q := h
theorem go_fldE {C p dx : Addr} {fs : List (Str × V)} {f : Str} {v : V} (hp : H p = some (.ins C dx fs)) (hl : fs.lookup f = some v) {R : V → Prop} (h : R v) : ∃ a dx fs v, V.ref p = .ref a ∧ H a = some (.ins C dx fs) ∧ fs.lookup f = some v ∧ R v := ⟨p, dx, fs, v, rfl, hp, hl, h⟩
theorem go_sfld {C : Addr} {f : Str} (h : tv σ H fun y H1 => ta σ H1 fun x H2 => ∃ a dx fs, x = .ref a ∧ H2 a = some (.ins C dx fs) ∧ fs.length < 1000 ∧ D.nx σ (upd H2 a (.ins C dx (putF f y fs)))) : sFldC C ta tv f D σ H := h
theorem go_sfldE {C p dx : Addr} {fs : List (Str × V)} {f : Str} {y : V} {R : Hp → Prop} (hp : H p = some (.ins C dx fs)) (hl : fs.length < 1000) (h : R (upd H p (.ins C dx (putF f y fs)))) : ∃ a dx fs, V.ref p = .ref a ∧ H a = some (.ins C dx fs) ∧ fs.length < 1000 ∧ R (upd H a (.ins C dx (putF f y fs))) := ⟨p, dx, fs, rfl, hp, hl, h⟩
theorem go_ixL {p : Addr} {xs : List V} {i : Int} (hp : SqL K H p xs) (ha : atI xs i = some v) (h : Q v H) : rIxL K (.ref p) (.int i) H Q := ⟨p, xs, i, v, rfl, rfl, hp, ha, h⟩
theorem go_ixT {p : Addr} {xs : List V} {i : Int} (hp : SqT K H p xs) (ha : atI xs i = some v) (h : Q v H) : rIxT K (.ref p) (.int i) H Q := ⟨p, xs, i, v, rfl, rfl, hp, ha, h⟩
theorem go_setL {v : V} {p : Addr} {xs : List V} {k : Int} {j : Nat} {R : Hp → Prop} (hp : H p = some (.lst xs)) (hj : ixN xs.length k = some j) (h : R (upd H p (.lst (xs.set j v)))) : rSetL (.ref p) (.int k) v H R := ⟨p, xs, k, j, rfl, rfl, hp, hj, h⟩
theorem go_sub {to ti : TE} {t : TSet} {Q : L2.St → Hp → Prop} (h : to σ H fun o H1 => ti σ H1 fun i H2 => t o i v H2 fun H3 => Q σ H3) : gSub to ti t v σ H Q := h
theorem go_sl {r : V → Option Int → Option Int → Hp → VK → Prop} {tl th : TO} (h : te σ H fun x H1 => tl σ H1 fun l H2 => th σ H2 fun u H3 => r x l u H3 Q) : tSl r te tl th σ H Q := h
theorem go_noPart {Q : Option Int → Hp → Prop} (h : Q none H) : tNoPart σ H Q := h
theorem go_part {Q : Option Int → Hp → Prop} (h : te σ H fun x H1 => ∃ i, x = .int i ∧ Q (some i) H1) : tPart te σ H Q := h
theorem go_partE {i : Int} {R : Int → Prop} (h : R i) : ∃ j, V.int i = .int j ∧ R j := ⟨i, rfl, h⟩
theorem go_slL {p : Addr} {xs : List V} {lo hi : Option Int} (hp : SqL K H p xs) (h : ∀ q H', H q = none → L2.Same H H' → H' q = some (.lst (cutV xs lo hi)) → Q (.ref q) H') : rSlL K (.ref p) lo hi H Q := ⟨p, xs, rfl, hp, new_ok (R := fun p H' => Q (.ref p) H') h⟩
theorem go_cat {p q : Addr} {xs ys : List V} (hp : H p = some (.lst xs)) (hq : H q = some (.lst ys)) (hl : xs.length + ys.length ≤ 1000) (h : ∀ r H', H r = none → L2.Same H H' → H' r = some (.lst (xs ++ ys)) → Q (.ref r) H') : rCat (.ref p) (.ref q) H Q :=
  ⟨p, q, xs, ys, rfl, rfl, hp, hq, Nat.le_of_lt (small1000 hl), new_ok (R := fun p H' => Q (.ref p) H') h⟩
theorem go_rep {p : Addr} {k : Int} {xs : List V} (hp : H p = some (.lst xs)) (h0 : 0 ≤ k) (h1 : k ≤ 1000) (hl : xs.length * k.toNat ≤ 1000) (h : ∀ r H', H r = none → L2.Same H H' → H' r = some (.lst (List.replicate k.toNat xs).flatten) → Q (.ref r) H') : rRep (.ref p) (.int k) H Q :=
  ⟨p, k, xs, rfl, rfl, hp, by omega, by omega, Nat.le_of_lt (small1000 hl), new_ok (R := fun p H' => Q (.ref p) H') h⟩
/-- built-ins by names -/
def rLen (K : PySem.W.Frag) : List V → Hp → VK → Prop := fun xs H Q => ∃ x n, xs = [x] ∧ LenV K x H n ∧ Q (.int n) H
def rAbs : List V → Hp → VK → Prop := fun xs H Q => ∃ i, xs = [.int i] ∧ Q (.int (if i < 0 then -i else i)) H
def rMax2 : List V → Hp → VK → Prop := fun xs H Q => ∃ i j, xs = [.int i, .int j] ∧ Q (.int (if j > i then j else i)) H
def rMin2 : List V → Hp → VK → Prop := fun xs H Q => ∃ i j, xs = [.int i, .int j] ∧ Q (.int (if j < i then j else i)) H
def rInt1 : List V → Hp → VK → Prop := fun xs H Q => (∃ i, xs = [.int i] ∧ Q (.int i) H) ∨ ∃ k, xs = [.bl k] ∧ Q (.int (if k then 1 else 0)) H
theorem call_lenX {X : Cx} : CallR X (.builtin "len") (rLen X.K) := call_len
theorem call_absX {X : Cx} : CallR X (.builtin "abs") rAbs := call_abs
theorem call_max2X {X : Cx} (hc : X.calm = true) : CallR X (.builtin "max") rMax2 := call_max2 hc
theorem call_min2X {X : Cx} (hc : X.calm = true) : CallR X (.builtin "min") rMin2 := call_min2 hc
theorem call_int1X {X : Cx} : CallR X (.type "int") rInt1 := call_int1
theorem go_abs {i : Int} (h : Q (.int (if i < 0 then -i else i)) H) : rAbs [.int i] H Q := ⟨i, rfl, h⟩
theorem go_max2 {i j : Int} (h : Q (.int (if j > i then j else i)) H) : rMax2 [.int i, .int j] H Q := ⟨i, j, rfl, h⟩
theorem go_min2 {i j : Int} (h : Q (.int (if j < i then j else i)) H) : rMin2 [.int i, .int j] H Q := ⟨i, j, rfl, h⟩
theorem go_int {i : Int} (h : Q (.int i) H) : rInt1 [.int i] H Q := .inl ⟨i, rfl, h⟩
theorem go_intB {k : Bool} (h : Q (.int (if k then 1 else 0)) H) : rInt1 [.bl k] H Q := .inr ⟨k, rfl, h⟩
theorem go_lenL {p : Addr} {xs : List V} (hp : SqL K H p xs) (h : Q (.int xs.length) H) : rLen K [.ref p] H Q := ⟨_, xs.length, rfl, .inl ⟨xs, hp, rfl⟩, h⟩
theorem go_lenT {p : Addr} {xs : List V} (hp : SqT K H p xs) (h : Q (.int xs.length) H) : rLen K [.ref p] H Q := ⟨_, xs.length, rfl, .inr ⟨xs, hp, rfl⟩, h⟩
theorem go_lenS {x : Str} (hp : x.length ≤ sizeLine) (h : Q (.int x.length) H) : rLen K [.str x] H Q := ⟨_, x.length, rfl, ⟨hp, rfl⟩, h⟩
theorem go_all {p : Addr} {bs : List Bool} (hp : SqL K H p (bs.map V.bl)) (h : Q (.bl (bs.all id)) H) : rAll K [.ref p] H Q := ⟨p, bs, rfl, hp, h⟩
theorem go_any {p : Addr} {bs : List Bool} (hp : SqL K H p (bs.map V.bl)) (h : Q (.bl (bs.any id)) H) : rAny K [.ref p] H Q := ⟨p, bs, rfl, hp, h⟩
theorem go_bm {T : String} {r : V → List V → Hp → VK → Prop} (h : ta σ H fun x H1 => tyV K T x H1 ∧ tA σ H1 fun xs H2 => r x xs H2 Q) : tBM K T r ta tA σ H Q := h
theorem go_app {l : Addr} {xs : List V} {y : V} (hl : H l = some (.lst xs)) (hz : xs.length < 1000) (h : Q .non (upd H l (.lst (xs ++ [y])))) : rAppend (.ref l) [y] H Q := ⟨l, xs, y, rfl, rfl, hl, small1000 (Nat.le_of_lt hz), h⟩
theorem ty_list {p : Addr} {xs : List V} (h : SqL K H p xs) : tyV K "list" (.ref p) H := .inl ⟨rfl, xs, h⟩
theorem go_meth {C : Addr} {m : Str} {sp : Sp} {dvs : List V} (h : ta σ H fun x H1 => ∃ a dx fs, x = .ref a ∧ H1 a = some (.ins C dx fs) ∧ fs.lookup m = none ∧ tA σ H1 fun vs H2 => sp (x :: (vs ++ dvs)) H2 Q E) : tMeth C m sp dvs E ta tA σ H Q := h
theorem go_methE {C p dx : Addr} {fs : List (Str × V)} {m : Str} {R : Prop} (hp : H p = some (.ins C dx fs)) (hl : fs.lookup m = none) (h : R) : ∃ a dx fs, V.ref p = .ref a ∧ H a = some (.ins C dx fs) ∧ fs.lookup m = none ∧ R := ⟨p, dx, fs, rfl, hp, hl, h⟩
theorem go_methN {C : Addr} {m : Str} {n mk : Nat} {sp : Sp} {gV : List V → List V → List V} {tk : TA} (h : ta σ H fun x H1 => ∃ a dx fs, x = .ref a ∧ H1 a = some (.ins C dx fs) ∧ fs.lookup m = none ∧ tA σ H1 fun vs H2 => tk σ H2 fun zs H3 => vs.length = n ∧ zs.length = mk ∧ sp (gV (x :: vs) zs) H3 Q E) : tMethN C m n mk sp gV E ta tA tk σ H Q := h
theorem go_make {C : Addr} {sp : Sp} {dvs : List V} (h : tA σ H fun vs H1 => ∀ x dx, H1 x = none → H1 dx = none → dx ≠ x → sp (.ref x :: (vs ++ dvs)) (upd (upd H1 dx (.own x)) x (.ins C dx [])) (fun v H2 => v = .non ∧ Q (.ref x) H2) E) : tMake C sp dvs E tA σ H Q := h
theorem go_makeK {C : Addr} {n m : Nat} {sp : Sp} {gV : List V → List V → List V} {tk : TA} (h : tA σ H fun vs H1 => tk σ H1 fun zs H2 => vs.length = n ∧ zs.length = m ∧ ∀ x dx, H2 x = none → H2 dx = none → dx ≠ x → sp (gV (.ref x :: vs) zs) (upd (upd H2 dx (.own x)) x (.ins C dx [])) (fun v H3 => v = .non ∧ Q (.ref x) H3) E) : tMakeK C n m sp gV E tA tk σ H Q := h
theorem go_two {A B R : Prop} (a : A) (b : B) (h : R) : A ∧ B ∧ R := ⟨a, b, h⟩
theorem go_own2 {C p q dx dy : Addr} {fs gs : List (Str × V)} {sp : Sp} (hp : H p = some (.ins C dx fs)) (hq : H q = some (.ins C dy gs)) (h : sp [.ref p, .ref q] H Q E) : rOwn2 C sp E (.ref p) (.ref q) H Q := ⟨p, dx, fs, q, dy, gs, rfl, rfl, hp, hq, h⟩
theorem go_ownI {C p dx : Addr} {fs : List (Str × V)} {sp : Sp} {i : Int} (hp : H p = some (.ins C dx fs)) (h : sp [.ref p, .int i] H Q E) : rOwnI C sp E (.ref p) (.int i) H Q := ⟨p, dx, fs, i, rfl, rfl, hp, h⟩
theorem go_ownU {C p dx : Addr} {fs : List (Str × V)} {sp : Sp} (hp : H p = some (.ins C dx fs)) (h : sp [.ref p] H Q E) : rOwnU C sp E (.ref p) H Q := ⟨p, dx, fs, rfl, hp, h⟩
theorem go_refl {C p dx : Addr} {fs : List (Str × V)} {sp : Sp} {i : Int} (hp : H p = some (.ins C dx fs)) (h : sp [.ref p, .int i] H Q E) : rRefl C sp E (.int i) (.ref p) H Q := ⟨i, p, dx, fs, rfl, rfl, hp, h⟩
end go2

/-! ### keywords and defaults -/
section
variable {K : PySem.W.Frag} {x qual : Str} {st : Stmt} {f : Addr} {fd : FuncData} {ps : List Str}
theorem Fun_kb (F : Fun K x qual st f fd) (n : Nat) (ks : List Str) (g : {α : Type} → List α → List α → List α) (hrel : ∀ {vs zs : List V} {us ws : List Value}, Vals vs us → Vals zs ws → Vals (g vs zs) (g us ws))
    (h : ∀ (kV doc pm : Value) (an : Option Addr) (cdv ct : Value) (us ws : List Value), us.length = n → ws.length = ks.length → bindArgs (PySem.W.fnOf x qual (defArgs st) (defBody st) (defScope st) .none kV doc pm an cdv ct) ⟨us, ks.zip ws⟩ = pure (ps.zip (g us ws))) :
    ∃ g', KBn K fd ps n ks g' (fun vs zs => g vs zs) := by
  obtain ⟨oc, od, kV, doc, pm, an, cdv, ct, osl, rfl, lk, hcd⟩ := F.ex
  exact ⟨fun us ws => g us ws, ⟨fun s us ws _ l1 l2 => .of_eq (h kV doc pm an cdv ct us ws l1 l2), fun r1 r2 => hrel r1 r2⟩⟩
theorem Vals_rev : ∀ {vs : List V} {us : List Value}, Vals vs us → Vals vs.reverse us.reverse := fun {vs us} h => by
  induction h with
  | nil => exact .nil
  | cons r _ ih =>
    rw [List.reverse_cons, List.reverse_cons]
    exact Vals.append ih (.cons r .nil)
end
section
variable {K : PySem.W.Frag} {x qual : Str} {params : Arguments} {body : List Stmt} {scope : Scope} {dvs : List V} {f : Addr} {fd : FuncData} {ps : List Str}
theorem FunD_all (F : FunD K x qual params body scope dvs [] f fd) (hd : dvs ≠ [])
    (h : ∀ (T : Addr) (kV doc pm : Value) (an : Option Addr) (cdv ct : Value) (us its : List Value), us.length = ps.length → its.length = dvs.length →
      ∃ k, bindArgs (PySem.W.fnOf x qual params body scope (.ref T) kV doc pm an cdv ct) ⟨us, []⟩ = seqItems? (.ref T) >>= k ∧ k (some its.toArray) = pure (ps.zip us)) : Binds K fd ps [] := by
  obtain ⟨ds, h1, h2⟩ := F.binds1 (ps := ps) ps.length dvs.length hd (by omega) fun T kV doc pm an cdv ct us its l1 l2 => by
    obtain ⟨k, e1, e2⟩ := h T kV doc pm an cdv ct us its l1 l2
    refine ⟨k, e1, ?_⟩
    rw [← l2, List.drop_length, List.append_nil]
    exact e2
  rw [List.drop_length] at h1
  cases h1
  exact h2
end
end SL

set_option Elab.async false
set_option linter.all false
set_option maxRecDepth 100000
set_option maxHeartbeats 4000000
namespace SL
open PySem L2 PySem.Spec PyProof.Rows

/-! ### str(own), str(int), str(text) -/
section
variable {X : Cx} {CX : CXT} {k : Nat} {f C : Addr} {fd : FuncData} {ps : List Str} {sp : Sp} {E : XK}
/-- a def called two C units deeper (out of a type's call) -/
theorem run_fn2 {pins : List (Addr × Obj)} {σ : L2.St} {H : Hp} {s : Shared} {Q : VK} {us : List Value} {vs : List V} {dvs : List V} {ds : List Value} (F : FnOk X.prog X.w X.K X.mg X.base CX k f fd ps sp) (hr : Room (k + 2) X.A) (hb : Binds X.K fd ps ds) (hd : Vals dvs ds) (hx : Passes CX X E)
    (I : Inv X pins σ H s) (r : Vals vs us) (h : sp (vs ++ dvs) H Q E) : wpAny (model X.prog X.w) X.A.in1.in1 (call (.ref f) us) (EP X pins σ Q) X.xe s := by
  have r2 : Vals (vs ++ dvs) (us ++ ds) := r.append hd
  have hl : (us ++ ds).length = ps.length := by rw [← r2.length]; exact F.len _ _ _ _ h
  refine wpAny_call (codeAny_mono (F.run X.A.in1.in1 X.stack s H ⟨us, []⟩ (us ++ ds) (vs ++ dvs) Q E hr.in1.in1 I.env0.in1.in1 (hb s us I.kIn hl) r2 h) fun r s' hq => ?_)
  cases r with
  | error e => exact hx pins σ H s e s' I hq
  | ok fl =>
    cases fl with
    | ret u => exact I.after hq
    | next => exact False.elim hq
    | brk => exact False.elim hq
    | cont => exact False.elim hq
def rStrOwn (C : Addr) (sp : Sp) (E : XK) : List V → Hp → VK → Prop := fun xs H Q => ∃ a dx fs, xs = [.ref a] ∧ H a = some (.ins C dx fs) ∧ sp [.ref a] H (fun v H' => ∃ z, v = .str z ∧ Q v H') E
theorem call_strOwn (o : OwnOp X.K C f "__str__") (F : FnOk X.prog X.w X.K X.mg X.base CX k f fd ps sp) (hr : Room (k + 2) X.A) (hb : Binds X.K fd ps []) (hx : Passes CX X E) : CallR X (.type "str") (rStrOwn C sp E) := by
  intro pins s σ H xs us Q I r h
  obtain ⟨a, dx, fs, rfl, ha, h⟩ := h
  obtain ⟨u, rfl, rfl⟩ := vals1 r
  obtain ⟨od, J⟩ := inst_of I ha
  refine PySem.W.kso_call hr.in1.in1.units0 I.kIn J o.at_ o.fn (wpAny_mono (run_fn2 (us := [.ref a]) (vs := [.ref a]) F hr hb .nil hx I (.cons rfl .nil) h) (fun v s' q => ?_) fun _ _ e => e)
  obtain ⟨x, H', I', rx, z, rfl, q⟩ := q
  obtain ⟨t, rfl⟩ := rx
  exact ⟨.str z, H', I', ⟨t, rfl⟩, q⟩
def rStrI : List V → Hp → VK → Prop := fun xs H Q => ∃ i, xs = [.int i] ∧ i.natAbs.log2 < 1920 ∧ Q (.str (toString i)) H
theorem call_strIX : CallR X (.type "str") rStrI := call_str_int
def rStrS : List V → Hp → VK → Prop := fun xs H Q => ∃ a, xs = [.str a] ∧ Q (.str a) H
theorem call_strSX : CallR X (.type "str") rStrS := SkE.call_str_str
theorem op_addSt : OpR X (binaryOp .Add) rAddS := op_add_str
/-! ### comparisons of texts -/
def rLtS : R2 := fun x y H Q => ∃ i j, x = .str i ∧ y = .str j ∧ Q (.bl (decide (i.cps.toList < j.cps.toList))) H
def rLeS : R2 := fun x y H Q => ∃ i j, x = .str i ∧ y = .str j ∧ Q (.bl (!decide (j.cps.toList < i.cps.toList))) H
def rGtS : R2 := fun x y H Q => ∃ i j, x = .str i ∧ y = .str j ∧ Q (.bl (decide (j.cps.toList < i.cps.toList))) H
def rGeS : R2 := fun x y H Q => ∃ i j, x = .str i ∧ y = .str j ∧ Q (.bl (!decide (i.cps.toList < j.cps.toList))) H
theorem op_ltS : OpR X (compareOp .Lt) rLtS := op_lt_str
theorem op_leS : OpR X (compareOp .LtE) rLeS := op_le_str
theorem op_gtS : OpR X (compareOp .Gt) rGtS := op_gt_str
theorem op_geS : OpR X (compareOp .GtE) rGeS := op_ge_str
/-! ### texts made of parts -/
def tJ (ts : List TE) : TE := fun σ H Q => tJs ts Str.empty σ H fun out H1 => Q (.str out) H1
theorem pe_joinedX {v1 v2 : Expr} {rest : List Expr} {ts : List TE} {pos : Pos} (h : PJ X (v1 :: v2 :: rest) ts) : PE X (.JoinedStr (v1 :: v2 :: rest) pos) (tJ ts) := pe_joined h
def rJoin (K : PySem.W.Frag) : V → List V → Hp → VK → Prop := fun x xs H Q => ∃ a p, ∃ ys : List Str, x = .str a ∧ xs = [.ref p] ∧ (SqL K H p (ys.map V.str) ∨ SqT K H p (ys.map V.str)) ∧
    (ys.map (·.length)).sum + ys.length * a.length ≤ 16777216 ∧ Q (.str (Txt.join a ys)) H
theorem mt_joinX : MtR X "str.join" (rJoin X.K) := mt_join
/-! ### tuple(..) -/
def rTupOf (K : PySem.W.Frag) : List V → Hp → VK → Prop := fun xs H Q => ∃ p ys, xs = [.ref p] ∧ ((SqL K H p ys ∧ ∀ l, H l = none → Q (.ref l) (upd H l (.tup ys))) ∨ (SqT K H p ys ∧ Q (.ref p) H))
theorem call_tupX : CallR X (.type "tuple") (rTupOf X.K) := call_tuple_of
theorem _root_.L2.Room.units1 {A : Around} (r : Room k A) : A.units + 1 < cLine := by have := r.un; omega
end

/-! ### steps -/
section
variable {K : PySem.W.Frag} {D : Ends} {σ : L2.St} {H : Hp} {Q : VK} {te ta tb tc tv to : TE} {tA : TA} {v x y : V} {i j : Nat} {E : XK}
theorem go_strOwn {C a dx : Addr} {fs : List (Str × V)} {sp : Sp} (ha : H a = some (.ins C dx fs)) (h : sp [.ref a] H (fun v H' => ∃ z, v = .str z ∧ Q v H') E) : rStrOwn C sp E [.ref a] H Q := ⟨a, dx, fs, rfl, ha, h⟩
theorem go_strI {i : Int} (hz : i.natAbs.log2 < 1920) (h : Q (.str (toString i)) H) : rStrI [.int i] H Q := ⟨i, rfl, hz, h⟩
theorem go_strS {z : Str} (h : Q (.str z) H) : rStrS [.str z] H Q := ⟨z, rfl, h⟩
theorem go_ltS {z z' : Str} (h : Q (.bl (decide (z.cps.toList < z'.cps.toList))) H) : rLtS (.str z) (.str z') H Q := ⟨z, z', rfl, rfl, h⟩
theorem go_leS {z z' : Str} (h : Q (.bl (!decide (z'.cps.toList < z.cps.toList))) H) : rLeS (.str z) (.str z') H Q := ⟨z, z', rfl, rfl, h⟩
theorem go_chain {r r' : R2} (h : ta σ H fun x H1 => tb σ H1 fun y H2 => r x y H2 fun z H3 => ∃ k, z = .bl k ∧ (if k = true then tc σ H3 fun w' H4 => r' y w' H4 Q else Q (.bl false) H3)) : tChain r r' ta tb tc σ H Q := h
theorem go_j {ts : List TE} (h : tJs ts Str.empty σ H fun out H1 => Q (.str out) H1) : tJ ts σ H Q := h
theorem go_js0 {acc : Str} {R : Str → Hp → Prop} (h : R acc H) : tJs [] acc σ H R := h
theorem go_js {ts : List TE} {acc : Str} {R : Str → Hp → Prop} (h : te σ H fun x H1 => ∃ y : Str, x = .str y ∧ (acc ++ y).length ≤ sizeLine ∧ tJs ts (acc ++ y) σ H1 R) : tJs (te :: ts) acc σ H R := h
theorem go_fmt (h : te σ H fun x H1 => (∃ y : Str, x = .str y ∧ y.length ≤ sizeLine ∧ Q (.str y) H1) ∨ ∃ i : Int, x = .int i ∧ i.natAbs.log2 < 1920 ∧ Q (.str (toString i)) H1) : tFmt te σ H Q := h
theorem fmtS {z : Str} {R : V → Prop} (hl : z.length ≤ sizeLine) (h : R (.str z)) : (∃ y : Str, V.str z = .str y ∧ y.length ≤ sizeLine ∧ R (.str y)) ∨ ∃ i : Int, V.str z = .int i ∧ i.natAbs.log2 < 1920 ∧ R (.str (toString i)) := .inl ⟨z, rfl, hl, h⟩
theorem fmtI {i : Int} {R : V → Prop} (hl : i.natAbs.log2 < 1920) (h : R (.str (toString i))) : (∃ y : Str, V.int i = .str y ∧ y.length ≤ sizeLine ∧ R (.str y)) ∨ ∃ j : Int, V.int i = .int j ∧ j.natAbs.log2 < 1920 ∧ R (.str (toString j)) := .inr ⟨i, rfl, hl, h⟩
theorem jsE {acc z : Str} {R : Str → Prop} (hl : (acc ++ z).length ≤ sizeLine) (h : R z) : ∃ y : Str, V.str z = .str y ∧ (acc ++ y).length ≤ sizeLine ∧ R y := ⟨z, rfl, hl, h⟩
theorem isS {z : Str} {A : Prop} (h : A) : (∃ a, V.str z = .str a) ∧ A := ⟨⟨z, rfl⟩, h⟩
theorem go_m1 {r : V → List V → Hp → VK → Prop} (h : to σ H fun x H1 => (∃ a, x = .str a) ∧ te σ H1 fun y H2 => r x [y] H2 Q) : tM1 r to te σ H Q := h
theorem go_addS {z z' : Str} (hl : z.length + z'.length ≤ sizeLine) (h : Q (.str (z ++ z')) H) : rAddS (.str z) (.str z') H Q := ⟨z, z', rfl, rfl, hl, h⟩
theorem go_tupL {p : Addr} {ys : List V} (hp : SqL K H p ys) (h : ∀ l H', H l = none → L2.Same H H' → H' l = some (.tup ys) → Q (.ref l) H') : rTupOf K [.ref p] H Q :=
  ⟨p, ys, rfl, .inl ⟨hp, new_ok (R := fun p H' => Q (.ref p) H') h⟩⟩
theorem go_iStr {R : It → Hp → Prop} (h : te σ H fun v H1 => ∃ x, v = .str x ∧ R (Its x) H1) : iStr te σ H R := h
theorem go_iZip {R : It → Hp → Prop} (h : tA σ H fun vs H1 => ∃ a b xs ys, vs = [.ref a, .ref b] ∧ SqL K H1 a xs ∧ SqL K H1 b ys ∧ R (Itz K a b) H1) : iZip K tA σ H R := h
theorem go_iKeys {R : It → Hp → Prop} (h : te σ H fun x H1 => ∃ d o, x = .ref d ∧ ((∃ kvs, H1 d = some (.frz o (.dK kvs)) ∧ R (Itk d o kvs) H1) ∨ ∃ kvs, H1 d = some (.frz o (.dT kvs)) ∧ R (Itkt d o kvs) H1)) : iKeys te σ H R := h
theorem go_dget (h : ta σ H fun x H1 => tb σ H1 fun y H2 => ∃ a v, x = .ref a ∧ DGet H2 a y (some v) ∧ Q v H2) : tDGet ta tb σ H Q := h
theorem go_dc {wi : TI} {g : TG} {tt : TT} {tk : TE} {vs : List Nat} (h : wi σ H fun J H1 => ∀ D, H1 D = none → ∃ W : Nat → Nat → Hp → Prop, (∃ m, W 0 m (upd H1 D (.dK []))) ∧ ∀ i m H, W i m H →
  (J.stop i H ∧ Q (.ref D) H) ∨ (J.go i H ∧ ∃ Nx : Hp → Prop, (∀ H', Nx H' → ∃ m', m' < m ∧ W (i + 1) m' H') ∧ ∀ x H', J.yld i H x H' → g x (wipe σ vs) H' fun σ2 H2 => wipe σ2 vs = wipe σ vs ∧ tt σ2 H2 fun b H3 =>
    if b = true then tk σ2 H3 fun y H4 => tv σ2 H4 fun z H5 => ∃ kvs k, y = kV k ∧ H5 D = some (.dK kvs) ∧ kvs.length < sizeLine ∧ Nx (upd H5 D (.dK (putK kvs k z))) else Nx H3)) : tDc wi g tt tk tv vs σ H Q := h
end

/-! ### comprehensions over heaps that only grow -/
/-- what is not a list or a dict stays -/
def Imm (H H' : Hp) : Prop := ∀ p o, (∀ xs, o ≠ .lst xs) → (∀ kvs, o ≠ .dK kvs) → (∀ kvs, o ≠ .dT kvs) → H p = some o → H' p = some o
theorem Imm.of {H H' : Hp} (e : L2.Same H H') : Imm H H' := fun p o _ _ _ h => e p o h
theorem Imm.tup {H H' : Hp} {p : Addr} {xs : List V} (e : Imm H H') (h : H p = some (.tup xs)) : H' p = some (.tup xs) := e p _ (fun _ z => by cases z) (fun _ z => by cases z) (fun _ z => by cases z) h
theorem Imm.ins {H H' : Hp} {p C dx : Addr} {fs : List (Str × V)} (e : Imm H H') (h : H p = some (.ins C dx fs)) : H' p = some (.ins C dx fs) := e p _ (fun _ z => by cases z) (fun _ z => by cases z) (fun _ z => by cases z) h
theorem Imm.updL {H : Hp} {p : Addr} {xs ys : List V} (h : H p = some (.lst xs)) : Imm H (upd H p (.lst ys)) := fun q o n1 _ _ hq => by
  by_cases e : q = p
  · subst e; rw [h] at hq; cases hq; exact absurd rfl (n1 _)
  · rw [upd_ne e]; exact hq
theorem Imm.updD {H : Hp} {p : Addr} {xs ys : List (Key × V)} (h : H p = some (.dK xs)) : Imm H (upd H p (.dK ys)) := fun q o _ n1 _ hq => by
  by_cases e : q = p
  · subst e; rw [h] at hq; cases hq; exact absurd rfl (n1 _)
  · rw [upd_ne e]; exact hq
theorem Imm.trans {H H' H'' : Hp} (e : Imm H H') (f : Imm H' H'') : Imm H H'' := fun p o a b c h => f p o a b c (e p o a b c h)
section
variable {J : It} {n : Nat} {G : Hp → Prop} {Y : Nat → Hp → V → Hp → Prop} {g : TG} {tt : TT} {te tk tv : TE} {vs : List Nat} {σ : L2.St} {H1 : Hp} {Qd : Addr → Hp → Prop}
theorem lc_ext (w : Walk J n G Y) (R : Nat → List V → Hp → Prop) (mono : ∀ i ys H H', Imm H H' → R i ys H → R i ys H') (h0 : R 0 [] H1) (hG : ∀ H', L2.Same H1 H' → G H') (hn : n ≤ 1000) (hY : ∀ i H x H', Y i H x H' → L2.Same H H')
    (hs : ∀ i ys x H H' (P : VK) (N : Hp → Prop), i < n → L2.Same H1 H → R i ys H → Y i H x H' → (∀ y H4, L2.Same H' H4 → R (i + 1) (ys ++ [y]) H4 → P y H4) → (∀ H3, L2.Same H' H3 → R (i + 1) ys H3 → N H3) →
      g x (wipe σ vs) H' fun σ2 H2 => wipe σ2 vs = wipe σ vs ∧ tt σ2 H2 fun b H3 => if b = true then te σ2 H3 P else N H3)
    (hd : ∀ D ys H', H1 D = none → L2.Same H1 H' → H' D = some (.lst ys) → ys.length ≤ n → R n ys H' → Qd D H') :
    ∀ D, H1 D = none → ∃ W : Nat → Nat → Hp → Prop, (∃ m, W 0 m (upd H1 D (.lst []))) ∧ ∀ i m H, W i m H →
      (J.stop i H ∧ Qd D H) ∨ (J.go i H ∧ ∃ Nx : Hp → Prop, (∀ H', Nx H' → ∃ m', m' < m ∧ W (i + 1) m' H') ∧ ∀ x H', J.yld i H x H' → g x (wipe σ vs) H' fun σ2 H2 => wipe σ2 vs = wipe σ vs ∧ tt σ2 H2 fun b H3 =>
        if b = true then te σ2 H3 fun y H4 => ∃ acc, H4 D = some (.lst acc) ∧ acc.length < sizeLine ∧ Nx (upd H4 D (.lst (acc ++ [y]))) else Nx H3) := by
  intro D hD
  refine ⟨fun i m H => m = n - i ∧ i ≤ n ∧ L2.Same H1 H ∧ ∃ ys, H D = some (.lst ys) ∧ ys.length ≤ i ∧ R i ys H, ⟨n, by simp, Nat.zero_le _, Same.new hD, [], upd_same, Nat.le_refl _, mono _ _ _ _ (Imm.of (Same.new hD)) h0⟩, ?_⟩
  rintro i m H ⟨rfl, hi, e, ys, hys, hl, hR⟩
  have q := hG H e
  by_cases hlt : i < n
  · refine .inr ⟨w.goes i H hlt q, fun H' => i + 1 ≤ n ∧ L2.Same H1 H' ∧ ∃ ys, H' D = some (.lst ys) ∧ ys.length ≤ i + 1 ∧ R (i + 1) ys H', fun H' ⟨a, b, c⟩ => ⟨n - (i + 1), by omega, rfl, a, b, c⟩, fun x H' y => ?_⟩
    have y' := w.yields i H x H' hlt q y
    have e' := hY _ _ _ _ y'
    refine hs i ys x H H' _ _ hlt e hR y' (fun y H4 e4 r4 => ?_) (fun H3 e3 r3 => ⟨hlt, (e.trans e').trans e3, ys, (e'.trans e3) _ _ hys, by omega, r3⟩)
    have hD4 := (e'.trans e4) _ _ hys
    exact ⟨ys, hD4, small1000 (by omega), hlt, Same.mut ((e.trans e').trans e4) hD, _, upd_same, by rw [List.length_append]; show ys.length + 1 ≤ i + 1; omega, mono _ _ _ _ (Imm.updL hD4) r4⟩
  · have : i = n := by omega
    subst this
    exact .inl ⟨w.stops H q, hd D ys H hD e hys hl hR⟩
theorem dc_ext (w : Walk J n G Y) (R : Nat → List (Key × V) → Hp → Prop) (mono : ∀ i ys H H', Imm H H' → R i ys H → R i ys H') (h0 : R 0 [] H1) (hG : ∀ H', L2.Same H1 H' → G H') (hn : n ≤ 1000) (hY : ∀ i H x H', Y i H x H' → L2.Same H H')
    (hz : ∀ i ys H, i ≤ n → R i ys H → ys.length ≤ 1000)
    (hs : ∀ i ys x H H' (P : V → V → Hp → Prop) (N : Hp → Prop), i < n → L2.Same H1 H → R i ys H → Y i H x H' → (∀ k z H4, L2.Same H' H4 → R (i + 1) (putK ys k z) H4 → P (kV k) z H4) → (∀ H3, L2.Same H' H3 → R (i + 1) ys H3 → N H3) →
      g x (wipe σ vs) H' fun σ2 H2 => wipe σ2 vs = wipe σ vs ∧ tt σ2 H2 fun b H3 => if b = true then tk σ2 H3 fun y H4 => tv σ2 H4 fun z H5 => P y z H5 else N H3)
    (hd : ∀ D ys H', H1 D = none → L2.Same H1 H' → H' D = some (.dK ys) → R n ys H' → Qd D H') :
    ∀ D, H1 D = none → ∃ W : Nat → Nat → Hp → Prop, (∃ m, W 0 m (upd H1 D (.dK []))) ∧ ∀ i m H, W i m H →
      (J.stop i H ∧ Qd D H) ∨ (J.go i H ∧ ∃ Nx : Hp → Prop, (∀ H', Nx H' → ∃ m', m' < m ∧ W (i + 1) m' H') ∧ ∀ x H', J.yld i H x H' → g x (wipe σ vs) H' fun σ2 H2 => wipe σ2 vs = wipe σ vs ∧ tt σ2 H2 fun b H3 =>
        if b = true then tk σ2 H3 fun y H4 => tv σ2 H4 fun z H5 => ∃ kvs k, y = kV k ∧ H5 D = some (.dK kvs) ∧ kvs.length < sizeLine ∧ Nx (upd H5 D (.dK (putK kvs k z))) else Nx H3) := by
  intro D hD
  refine ⟨fun i m H => m = n - i ∧ i ≤ n ∧ L2.Same H1 H ∧ ∃ ys, H D = some (.dK ys) ∧ R i ys H, ⟨n, by simp, Nat.zero_le _, Same.new hD, [], upd_same, mono _ _ _ _ (Imm.of (Same.new hD)) h0⟩, ?_⟩
  rintro i m H ⟨rfl, hi, e, ys, hys, hR⟩
  have q := hG H e
  by_cases hlt : i < n
  · refine .inr ⟨w.goes i H hlt q, fun H' => i + 1 ≤ n ∧ L2.Same H1 H' ∧ ∃ ys, H' D = some (.dK ys) ∧ R (i + 1) ys H', fun H' ⟨a, b, c⟩ => ⟨n - (i + 1), by omega, rfl, a, b, c⟩, fun x H' y => ?_⟩
    have y' := w.yields i H x H' hlt q y
    have e' := hY _ _ _ _ y'
    refine hs i ys x H H' (fun y z H5 => _) _ hlt e hR y' (fun k z H4 e4 r4 => ?_) (fun H3 e3 r3 => ⟨hlt, (e.trans e').trans e3, ys, (e'.trans e3) _ _ hys, r3⟩)
    have hD4 := (e'.trans e4) _ _ hys
    exact ⟨ys, k, rfl, hD4, small1000 (hz _ _ _ hi hR), hlt, Same.mut ((e.trans e').trans e4) hD, _, upd_same, mono _ _ _ _ (Imm.updD hD4) r4⟩
  · have : i = n := by omega
    subst this
    exact .inl ⟨w.stops H q, hd D ys H hD e hys hR⟩
end
end SL

set_option Elab.async false
set_option linter.all false
set_option maxRecDepth 100000
set_option maxHeartbeats 4000000
namespace SL
open PySem L2 PySem.Spec PyProof.Rows

/-- the classes' addresses; cls: those that values may be of -/
structure Cl where
  C_Ratio : Addr := 0
  C_Form : Addr := 0
  C_Facts : Addr := 0
  C_Puppet : Addr := 0
  C_Script : Addr := 0
  C_Run : Addr := 0
  C_Wish : Addr := 0
  C_InvalidNumber : Addr := 0
  C_InvalidText : Addr := 0
  C_InvalidForm : Addr := 0
  emp : Addr := 0
  cls : List Addr := []
/-- what kind a value is of -/
inductive Ty where
  | non | bl | int | str | lst | tup | dic | cls (C : Addr)
  deriving DecidableEq
inductive Kd (K : PySem.W.Frag) (a : Cl) (H : Hp) : V → Ty → Prop where
  | non : Kd K a H .non .non
  | bl (b : Bool) : Kd K a H (.bl b) .bl
  | int (i : Int) : Kd K a H (.int i) .int
  | str (x : Str) : Kd K a H (.str x) .str
  | lst {p : Addr} {xs : List V} (h : H p = some (.lst xs)) : Kd K a H (.ref p) .lst
  | tup {p : Addr} {xs : List V} (h : H p = some (.tup xs)) : Kd K a H (.ref p) .tup
  | tupK {p : Addr} {o : Obj} (e : K.lookup p = some o) (c : o.cls = .type "tuple") : Kd K a H (.ref p) .tup
  | tupF {p : Addr} {o : Obj} {xs : List V} (h : H p = some (.frz o (.tup xs))) : Kd K a H (.ref p) .tup
  | dK {p : Addr} {kvs : List (Key × V)} (h : H p = some (.dK kvs)) : Kd K a H (.ref p) .dic
  | dT {p : Addr} {kvs : List (List Key × V)} (h : H p = some (.dT kvs)) : Kd K a H (.ref p) .dic
  | ins {p C dx : Addr} {fs : List (Str × V)} (h : H p = some (.ins C dx fs)) (hC : C ∈ a.cls) : Kd K a H (.ref p) (.cls C)
theorem Kd.up {K : PySem.W.Frag} {a : Cl} {H H' : Hp} {v : V} {t : Ty} (e : L2.Same H H') (h : Kd K a H v t) : Kd K a H' v t := by
  cases h with
  | non => exact .non
  | bl b => exact .bl b
  | int i => exact .int i
  | str x => exact .str x
  | lst h => exact .lst (e _ _ h)
  | tup h => exact .tup (e _ _ h)
  | tupK h c => exact .tupK h c
  | tupF h => exact .tupF (e _ _ h)
  | dK h => exact .dK (e _ _ h)
  | dT h => exact .dT (e _ _ h)
  | ins h c => exact .ins (e _ _ h) c
/-- what the written part must show of a class of values -/
structure CF (K : PySem.W.Frag) (C : Addr) : Prop where
  cl : Cls K C
  ha : PySem.W.findIn K (.ref C) "__class__" = some (some (.builtin "object.__class__"))
  hn : PySem.W.specialIn K (.builtin "object.__class__") "__get__" = some (some (.builtin "getset_descriptor.__get__"))
  ht : PySem.W.takesIn K (.builtin "object.__class__") = some true
  hm : PySem.W.mroIn K C (.type "object") = some true
  kb : ∀ T ∈ (["int", "bool", "str", "tuple", "list", "dict"] : List String), PySem.W.kitOne K (.ref C) (.type T) = some false
  kt : ∀ T ∈ (["NoneType", "bool", "int", "str", "list", "tuple", "dict"] : List String), PySem.W.kitOne K (.type T) (.ref C) = some false
  nf : ∀ T ∈ (["NoneType", "bool", "int", "str", "list", "tuple", "dict"] : List String), PySem.W.notFirst K C (.type T) = true
structure KF (K : PySem.W.Frag) (a : Cl) : Prop where
  cf : ∀ C ∈ a.cls, CF K C
  cc : ∀ C ∈ a.cls, ∀ D ∈ a.cls, PySem.W.kitOne K (.ref C) (.ref D) = some (decide (C = D))
  nn : ∀ C ∈ a.cls, ∀ D ∈ a.cls, PySem.W.notFirst K C (.ref D) = true
/-- the type as the library has it -/
def Ty.val : Ty → Value
  | .non => .type "NoneType"
  | .bl => .type "bool"
  | .int => .type "int"
  | .str => .type "str"
  | .lst => .type "list"
  | .tup => .type "tuple"
  | .dic => .type "dict"
  | .cls C => .ref C
theorem Kd.tyx {K : PySem.W.Frag} {a : Cl} {H : Hp} {v : V} {t : Ty} (F : KF K a) (h : Kd K a H v t) : TyX K H v t.val := by
  cases h with
  | non => exact .base .non
  | bl b => exact .base (.bl b)
  | int i => exact .base (.int i)
  | str x => exact .base (.str x)
  | lst h => exact .base (.lst h)
  | tup h => exact .base (.tup h)
  | tupK h c => exact .kTuple h c
  | tupF h => exact .fTuple h
  | dK h => exact .base (.dK h)
  | dT h => exact .base (.dT h)
  | ins h c => exact .base (.ins h (F.cf _ c).cl (F.cf _ c).ha (F.cf _ c).hn (F.cf _ c).ht (F.cf _ c).hm)
theorem Kd.sqT {K : PySem.W.Frag} {a : Cl} {H : Hp} {p : Addr} {xs : List V} (h : SqT K H p xs) : Kd K a H (.ref p) .tup := by
  rcases h with (h | ⟨o, h⟩) | ⟨o, its, n, e, c, _⟩
  · exact .tup h
  · exact .tupF h
  · exact .tupK e c
theorem Kd.mem {K : PySem.W.Frag} {a : Cl} {H : Hp} {v : V} {C : Addr} (h : Kd K a H v (.cls C)) : C ∈ a.cls := by
  cases h with
  | ins _ c => exact c
def Ty.isInt : Ty → Bool | .int => true | .bl => true | _ => false
def Ty.isBool : Ty → Bool | .bl => true | _ => false
def Ty.isStr : Ty → Bool | .str => true | _ => false
def Ty.isTup : Ty → Bool | .tup => true | _ => false
def Ty.isLst : Ty → Bool | .lst => true | _ => false
def Ty.isDic : Ty → Bool | .dic => true | _ => false
section
variable {K : PySem.W.Frag} {a : Cl} {H : Hp} {v : V} {t : Ty} {Q : VK}
theorem kit_b {T : String} {f : Ty → Bool} (F : KF K a) (hT : T ∈ (["int", "bool", "str", "tuple", "list", "dict"] : List String)) (hb : kitB "NoneType" T = some (f .non) ∧ kitB "bool" T = some (f .bl) ∧ kitB "int" T = some (f .int) ∧ kitB "str" T = some (f .str) ∧ kitB "list" T = some (f .lst) ∧ kitB "tuple" T = some (f .tup) ∧ kitB "dict" T = some (f .dic))
    (hc : ∀ C, f (.cls C) = false) (h : Kd K a H v t) : PySem.W.kitOne K t.val (.type T) = some (f t) := by
  obtain ⟨h1, h2, h3, h4, h5, h6, h7⟩ := hb
  cases t with
  | non => exact kit_ty h1
  | bl => exact kit_ty h2
  | int => exact kit_ty h3
  | str => exact kit_ty h4
  | lst => exact kit_ty h5
  | tup => exact kit_ty h6
  | dic => exact kit_ty h7
  | cls C =>
    rw [hc C]
    exact (F.cf C h.mem).kb T hT
theorem isi_int {b : Bool} (F : KF K a) (h : Kd K a H v t) (e : t.isInt = b) (q : Q (.bl b) H) : rIsi K [v, .ty "int"] H Q :=
  ⟨v, .ty "int", t.val, .type "int", _, rfl, .ty "int", h.tyx F, kit_b F (by simp) (by decide +kernel) (fun _ => rfl) h, e ▸ q⟩
theorem isi_bool {b : Bool} (F : KF K a) (h : Kd K a H v t) (e : t.isBool = b) (q : Q (.bl b) H) : rIsi K [v, .ty "bool"] H Q :=
  ⟨v, .ty "bool", t.val, .type "bool", _, rfl, .ty "bool", h.tyx F, kit_b F (by simp) (by decide +kernel) (fun _ => rfl) h, e ▸ q⟩
theorem isi_str {b : Bool} (F : KF K a) (h : Kd K a H v t) (e : t.isStr = b) (q : Q (.bl b) H) : rIsi K [v, .ty "str"] H Q :=
  ⟨v, .ty "str", t.val, .type "str", _, rfl, .ty "str", h.tyx F, kit_b F (by simp) (by decide +kernel) (fun _ => rfl) h, e ▸ q⟩
theorem isi_tup {b : Bool} (F : KF K a) (h : Kd K a H v t) (e : t.isTup = b) (q : Q (.bl b) H) : rIsi K [v, .ty "tuple"] H Q :=
  ⟨v, .ty "tuple", t.val, .type "tuple", _, rfl, .ty "tuple", h.tyx F, kit_b F (by simp) (by decide +kernel) (fun _ => rfl) h, e ▸ q⟩
theorem isi_lst {b : Bool} (F : KF K a) (h : Kd K a H v t) (e : t.isLst = b) (q : Q (.bl b) H) : rIsi K [v, .ty "list"] H Q :=
  ⟨v, .ty "list", t.val, .type "list", _, rfl, .ty "list", h.tyx F, kit_b F (by simp) (by decide +kernel) (fun _ => rfl) h, e ▸ q⟩
theorem isi_dic {b : Bool} (F : KF K a) (h : Kd K a H v t) (e : t.isDic = b) (q : Q (.bl b) H) : rIsi K [v, .ty "dict"] H Q :=
  ⟨v, .ty "dict", t.val, .type "dict", _, rfl, .ty "dict", h.tyx F, kit_b F (by simp) (by decide +kernel) (fun _ => rfl) h, e ▸ q⟩
theorem isi_cls {C : Addr} (F : KF K a) (hC : C ∈ a.cls) (h : Kd K a H v t) (q : Q (.bl (decide (t = .cls C))) H) : rIsi K [v, .ref C] H Q := by
  refine ⟨v, .ref C, t.val, .ref C, _, rfl, .own C, h.tyx F, ?_, q⟩
  have c := (F.cf C hC).kt
  cases t with
  | non => exact c "NoneType" (by simp)
  | bl => exact c "bool" (by simp)
  | int => exact c "int" (by simp)
  | str => exact c "str" (by simp)
  | lst => exact c "list" (by simp)
  | tup => exact c "tuple" (by simp)
  | dic => exact c "dict" (by simp)
  | cls D =>
    rw [show decide (Ty.cls D = Ty.cls C) = decide (D = C) by by_cases e : D = C <;> simp [e]]
    exact F.cc D h.mem C hC
theorem nf_of {C : Addr} (F : KF K a) (hC : C ∈ a.cls) (h : Kd K a H v t) : PySem.W.notFirst K C t.val = true := by
  have c := (F.cf C hC).nf
  cases t with
  | non => exact c "NoneType" (by simp)
  | bl => exact c "bool" (by simp)
  | int => exact c "int" (by simp)
  | str => exact c "str" (by simp)
  | lst => exact c "list" (by simp)
  | tup => exact c "tuple" (by simp)
  | dic => exact c "dict" (by simp)
  | cls D => exact F.nn C hC D h.mem
end
end SL

set_option Elab.async false
set_option linter.all false
set_option maxRecDepth 100000
set_option maxHeartbeats 4000000
namespace SL
open PySem L2 PySem.Spec PyProof.Rows

/-! ### Ratios -/
def RatAt (a : Cl) (H : Hp) (p : Addr) (n d : Int) : Prop := ∃ dx, H p = some (.ins a.C_Ratio dx [("top", .int n), ("bottom", .int d)])
theorem RatAt.up {a : Cl} {H H' : Hp} {p : Addr} {n d : Int} (e : L2.Same H H') (h : RatAt a H p n d) : RatAt a H' p n d := let ⟨dx, h⟩ := h; ⟨dx, e _ _ h⟩
theorem RatAt.kd {K : PySem.W.Frag} {a : Cl} {H : Hp} {p : Addr} {n d : Int} (hR : a.C_Ratio ∈ a.cls) (h : RatAt a H p n d) : Kd K a H (.ref p) (.cls a.C_Ratio) := let ⟨_, h⟩ := h; .ins h hR
/-- an int or a Ratio, and its worth -/
def Frac (a : Cl) (H : Hp) (v : V) (n d : Int) : Prop := (v = .int n ∧ d = 1) ∨ ∃ p, v = .ref p ∧ RatAt a H p n d
theorem Frac.up {a : Cl} {H H' : Hp} {v : V} {n d : Int} (e : L2.Same H H') (h : Frac a H v n d) : Frac a H' v n d := by
  rcases h with h | ⟨p, h1, h2⟩
  · exact .inl h
  · exact .inr ⟨p, h1, h2.up e⟩
theorem Frac.int {a : Cl} {H : Hp} {n : Int} : Frac a H (.int n) n 1 := .inl ⟨rfl, rfl⟩
theorem Frac.rat {a : Cl} {H : Hp} {p : Addr} {n d : Int} (h : RatAt a H p n d) : Frac a H (.ref p) n d := .inr ⟨p, rfl, h⟩
theorem lk_top (n d : Int) : ([("top", V.int n), ("bottom", V.int d)] : List (Str × V)).lookup ("top" : Str) = some (.int n) := by
  rw [List.lookup_cons]; simp
theorem lk_bot (n d : Int) : ([("top", V.int n), ("bottom", V.int d)] : List (Str × V)).lookup ("bottom" : Str) = some (.int d) := by
  rw [List.lookup_cons, show (("bottom" : Str) == "top") = false by decide +kernel]; simp
theorem put_tb (n d : Int) : putF "bottom" (.int d) (putF "top" (.int n) []) = ([("top", V.int n), ("bottom", V.int d)] : List (Str × V)) := by
  show (if ("top" : Str) = "bottom" then [(("top" : Str), V.int d)] else (("top" : Str), V.int n) :: putF "bottom" (V.int d) []) = ([("top", V.int n), ("bottom", V.int d)] : List (Str × V))
  rw [if_neg (by decide +kernel)]
  all_goals rfl
section
variable {K : PySem.W.Frag} {a : Cl} {H : Hp} {Q : VK} {p : Addr} {n d : Int}
theorem go_top {R : V → Prop} (hp : RatAt a H p n d) (h : R (.int n)) : ∃ q dx fs v, V.ref p = .ref q ∧ H q = some (.ins a.C_Ratio dx fs) ∧ fs.lookup ("top" : Str) = some v ∧ R v := let ⟨dx, e⟩ := hp; ⟨p, dx, _, _, rfl, e, lk_top n d, h⟩
theorem go_bot {R : V → Prop} (hp : RatAt a H p n d) (h : R (.int d)) : ∃ q dx fs v, V.ref p = .ref q ∧ H q = some (.ins a.C_Ratio dx fs) ∧ fs.lookup ("bottom" : Str) = some v ∧ R v := let ⟨dx, e⟩ := hp; ⟨p, dx, _, _, rfl, e, lk_bot n d, h⟩
end

theorem go_ratM {a : Cl} {H : Hp} {p : Addr} {n d : Int} {m : Str} {R : Prop} (hp : RatAt a H p n d) (hm : (m == ("top" : Str)) = false) (hm2 : (m == ("bottom" : Str)) = false) (h : R) : ∃ q dx fs, V.ref p = .ref q ∧ H q = some (.ins a.C_Ratio dx fs) ∧ fs.lookup m = none ∧ R := by
  obtain ⟨dx, e⟩ := hp
  refine ⟨p, dx, _, rfl, e, ?_, h⟩
  rw [List.lookup_cons, hm, List.lookup_cons, hm2]
  rfl
/-! ### the promises -/
def sp_is_integer (K : PySem.W.Frag) (a : Cl) : Sp := fun vs H Q _ => ∃ v t, vs = [v] ∧ Kd K a H v t ∧ Q (.bl (decide (t = .int))) H
def sp_shared_factor (K : PySem.W.Frag) (a : Cl) : Sp := fun vs H Q _ => ∃ n d, vs = [.int n, .int d] ∧ Q (.int (gI n d)) H
def sp_is_fraction (K : PySem.W.Frag) (a : Cl) : Sp := fun vs H Q _ => ∃ v t, vs = [v] ∧ Kd K a H v t ∧ Q (.bl (decide (t = .int) || decide (t = .cls a.C_Ratio))) H
def sp_as_ratio (K : PySem.W.Frag) (a : Cl) : Sp := fun vs H Q _ => ∃ v n d, vs = [v] ∧ Frac a H v n d ∧ ∀ p H', L2.Same H H' → RatAt a H' p n d → Q (.ref p) H'
def sp_Ratio___init__ (K : PySem.W.Frag) (a : Cl) : Sp := fun vs H Q _ => ∃ p dx n d, vs = [.ref p, .int n, .int d] ∧ H p = some (.ins a.C_Ratio dx []) ∧ 0 < d ∧ Bd 8000 d ∧
  ∀ H', (∀ b o, b ≠ p → H b = some o → H' b = some o) → RatAt a H' p (nm n d) (dn n d) → Q .non H'
def cmpI (x y : Int) : Int := if x = y then 0 else if x < y then -1 else 1
def sp_compared (K : PySem.W.Frag) (a : Cl) : Sp := fun vs H Q _ => ∃ p q n1 d1 n2 d2, vs = [.ref p, .ref q] ∧ RatAt a H p n1 d1 ∧ RatAt a H q n2 d2 ∧ Bd 3000 n1 ∧ Bd 3000 d1 ∧ Bd 3000 n2 ∧ Bd 3000 d2 ∧ Q (.int (cmpI (n1 * d2) (n2 * d1))) H
/-- what two fractions are asked for -/
structure Two (n1 d1 n2 d2 : Int) : Prop where
  p1 : 0 < d1
  p2 : 0 < d2
  b1 : Bd 3000 n1
  b2 : Bd 3000 d1
  b3 : Bd 3000 n2
  b4 : Bd 3000 d2
def spBin (a : Cl) (f : Int → Int → Int → Int → Int) (g : Int → Int → Int → Int → Int) : Sp := fun vs H Q _ => ∃ p v n1 d1 n2 d2, vs = [.ref p, v] ∧ RatAt a H p n1 d1 ∧ Frac a H v n2 d2 ∧ Two n1 d1 n2 d2 ∧
  ∀ q H', L2.Same H H' → RatAt a H' q (nm (f n1 d1 n2 d2) (g n1 d1 n2 d2)) (dn (f n1 d1 n2 d2) (g n1 d1 n2 d2)) → Q (.ref q) H'
def sp_Ratio___add__ (K : PySem.W.Frag) (a : Cl) : Sp := spBin a (fun n1 d1 n2 d2 => n1 * d2 + n2 * d1) (fun _ d1 _ d2 => d1 * d2)
def sp_Ratio___sub__ (K : PySem.W.Frag) (a : Cl) : Sp := spBin a (fun n1 d1 n2 d2 => n1 * d2 - n2 * d1) (fun _ d1 _ d2 => d1 * d2)
def sp_Ratio___mul__ (K : PySem.W.Frag) (a : Cl) : Sp := spBin a (fun n1 _ n2 _ => n1 * n2) (fun _ d1 _ d2 => d1 * d2)
def sp_Ratio___radd__ (K : PySem.W.Frag) (a : Cl) : Sp := spBin a (fun n1 d1 n2 d2 => n2 * d1 + n1 * d2) (fun _ d1 _ d2 => d2 * d1)
def sp_Ratio___rsub__ (K : PySem.W.Frag) (a : Cl) : Sp := spBin a (fun n1 d1 n2 d2 => n2 * d1 - n1 * d2) (fun _ d1 _ d2 => d2 * d1)
def sp_Ratio___rmul__ (K : PySem.W.Frag) (a : Cl) : Sp := spBin a (fun n1 _ n2 _ => n2 * n1) (fun _ d1 _ d2 => d2 * d1)
def sgn (n : Int) : Int := if 0 < n then 1 else -1
def sp_Ratio_over (K : PySem.W.Frag) (a : Cl) : Sp := fun vs H Q _ => ∃ p v n1 d1 n2 d2, vs = [.ref p, v] ∧ RatAt a H p n1 d1 ∧ Frac a H v n2 d2 ∧ Two n1 d1 n2 d2 ∧ n2 ≠ 0 ∧
  ∀ q H', L2.Same H H' → RatAt a H' q (nm (sgn n2 * n1 * d2) (sgn n2 * d1 * n2)) (dn (sgn n2 * n1 * d2) (sgn n2 * d1 * n2)) → Q (.ref q) H'
def sp_Ratio_compared (K : PySem.W.Frag) (a : Cl) : Sp := fun vs H Q _ => ∃ p v n1 d1 n2 d2, vs = [.ref p, v] ∧ RatAt a H p n1 d1 ∧ Frac a H v n2 d2 ∧ Two n1 d1 n2 d2 ∧ ∀ H', L2.Same H H' → Q (.int (cmpI (n1 * d2) (n2 * d1))) H'
def sp_Ratio___neg__ (K : PySem.W.Frag) (a : Cl) : Sp := fun vs H Q _ => ∃ p n d, vs = [.ref p] ∧ RatAt a H p n d ∧ 0 < d ∧ Bd 8000 d ∧ ∀ q H', L2.Same H H' → RatAt a H' q (nm (-n) d) (dn (-n) d) → Q (.ref q) H'
def sp_Ratio___eq__ (K : PySem.W.Frag) (a : Cl) : Sp := fun vs H Q _ => ∃ p v n d t, vs = [.ref p, v] ∧ RatAt a H p n d ∧ Kd K a H v t ∧
  ((t ≠ .int ∧ t ≠ .cls a.C_Ratio ∧ Q (.bl false) H) ∨ ∃ n2 d2, Frac a H v n2 d2 ∧ ∀ H', L2.Same H H' → Q (.bl (decide (n = n2) && decide (d = d2))) H')

/-! ### readings -/
abbrev nm_is_integer : List Str := ["value"]
def rd_is_integer (K : PySem.W.Frag) (a : Cl) (E : XK) : TS := (tRet (tAndV (tCB (rIsi K) (tCons (tVar 0) (tCons (tC (.ty "int")) tNil))) (tNotV (tCB (rIsi K) (tCons (tVar 0) (tCons (tC (.ty "bool")) tNil))))))
abbrev nm_shared_factor : List Str := ["one", "two", "high", "low"]
def rd_shared_factor (K : PySem.W.Frag) (a : Cl) (E : XK) : TS := (tSeq (tPar 2 3 (tCons (tCB rAbs (tCons (tVar 0) tNil)) (tCons (tCB rAbs (tCons (tVar 1) tNil)) tNil)))
  (tSeq (tWhile (tTest (tOp (rI0 fun i j => .bl (decide (j < i))) (tVar 3) (tC (.int 0)))) (tPar 2 3 (tCons (tVar 3) (tCons (tOp (rI (fun _ j => j ≠ 0) fun i j => .int (i.fmod j)) (tVar 2) (tVar 3)) tNil))))
  (tRet (tVar 2))))
abbrev nm_is_fraction : List Str := ["value"]
def rd_is_fraction (K : PySem.W.Frag) (a : Cl) (E : XK) : TS := (tRet (tOrV (tCall (sp_is_integer K a) [] E (tCons (tVar 0) tNil)) (tCB (rIsi K) (tCons (tVar 0) (tCons (tC (.ref a.C_Ratio)) tNil)))))
abbrev nm_as_ratio : List Str := ["value"]
def rd_as_ratio (K : PySem.W.Frag) (a : Cl) (E : XK) : TS := (tRet (tIf (tB (tCB (rIsi K) (tCons (tVar 0) (tCons (tC (.ref a.C_Ratio)) tNil)))) (tVar 0) (tMake a.C_Ratio (sp_Ratio___init__ K a) [.int 1] E (tCons (tVar 0) tNil))))
abbrev nm_compared : List Str := ["one", "other", "left", "right"]
def rd_compared (K : PySem.W.Frag) (a : Cl) (E : XK) : TS := (tSeq (tPar 2 3 (tCons (tOp (rI IntMulOk fun i j => .int (i * j)) (tFldC a.C_Ratio (tVar 0) "top") (tFldC a.C_Ratio (tVar 1) "bottom")) (tCons (tOp (rI IntMulOk fun i j => .int (i * j)) (tFldC a.C_Ratio (tVar 1) "top") (tFldC a.C_Ratio (tVar 0) "bottom")) tNil)))
  (tSeq (tIfS (tTest (tOp rEq (tVar 2) (tVar 3))) (tRet (tC (.int 0))) tNext)
  (tRet (tIf (tTest (tOp (rI0 fun i j => .bl (decide (i < j))) (tVar 2) (tVar 3))) (tUn (rU fun i => .int (-i)) (tC (.int 1))) (tC (.int 1))))))
abbrev nm_Ratio___init__ : List Str := ["self", "top", "bottom", "factor"]
def rd_Ratio___init__ (K : PySem.W.Frag) (a : Cl) (E : XK) : TS := (tSeq (tIfS (tNot (tB (tCall (sp_is_integer K a) [] E (tCons (tVar 1) tNil)))) tNever tNext)
  (tSeq (tIfS (tOr (tNot (tB (tCall (sp_is_integer K a) [] E (tCons (tVar 2) tNil)))) (tTest (tOp (rI0 fun i j => .bl (decide (i < j))) (tVar 2) (tC (.int 1))))) tNever tNext)
  (tSeq (tAsg (tCall (sp_shared_factor K a) [] E (tCons (tVar 1) (tCons (tVar 2) tNil))) (gName 3))
  (tSeq (sFldC a.C_Ratio (tVar 0) (tOp (rI CDivX fun i j => .int (i.fdiv j)) (tVar 1) (tVar 3)) "top")
  (sFldC a.C_Ratio (tVar 0) (tOp (rI CDivX fun i j => .int (i.fdiv j)) (tVar 2) (tVar 3)) "bottom")))))
abbrev nm_Ratio_over : List Str := ["self", "other", "by", "sign"]
def rd_Ratio_over (K : PySem.W.Frag) (a : Cl) (E : XK) : TS := (tSeq (tIfS (tOr (tNot (tB (tCall (sp_is_fraction K a) [] E (tCons (tVar 1) tNil)))) (tTest (tOp rEq (tFldC a.C_Ratio (tCall (sp_as_ratio K a) [] E (tCons (tVar 1) tNil)) "top") (tC (.int 0))))) tNever tNext)
  (tSeq (tAsg (tCall (sp_as_ratio K a) [] E (tCons (tVar 1) tNil)) (gName 2))
  (tSeq (tAsg (tIf (tTest (tOp (rI0 fun i j => .bl (decide (j < i))) (tFldC a.C_Ratio (tVar 2) "top") (tC (.int 0)))) (tC (.int 1)) (tUn (rU fun i => .int (-i)) (tC (.int 1)))) (gName 3))
  (tRet (tMake a.C_Ratio (sp_Ratio___init__ K a) [] E (tCons (tOp (rI IntMulOk fun i j => .int (i * j)) (tOp (rI IntMulOk fun i j => .int (i * j)) (tVar 3) (tFldC a.C_Ratio (tVar 0) "top")) (tFldC a.C_Ratio (tVar 2) "bottom")) (tCons (tOp (rI IntMulOk fun i j => .int (i * j)) (tOp (rI IntMulOk fun i j => .int (i * j)) (tVar 3) (tFldC a.C_Ratio (tVar 0) "bottom")) (tFldC a.C_Ratio (tVar 2) "top")) tNil)))))))
abbrev nm_Ratio_compared : List Str := ["self", "other"]
def rd_Ratio_compared (K : PySem.W.Frag) (a : Cl) (E : XK) : TS := (tSeq (tIfS (tNot (tB (tCall (sp_is_fraction K a) [] E (tCons (tVar 1) tNil)))) tNever tNext)
  (tRet (tCall (sp_compared K a) [] E (tCons (tVar 0) (tCons (tCall (sp_as_ratio K a) [] E (tCons (tVar 1) tNil)) tNil)))))
abbrev nm_Ratio___add__ : List Str := ["self", "other", "by"]
def rd_Ratio___add__ (K : PySem.W.Frag) (a : Cl) (E : XK) : TS := (tSeq (tIfS (tNot (tB (tCall (sp_is_fraction K a) [] E (tCons (tVar 1) tNil)))) tNever tNext)
  (tSeq (tAsg (tCall (sp_as_ratio K a) [] E (tCons (tVar 1) tNil)) (gName 2))
  (tRet (tMake a.C_Ratio (sp_Ratio___init__ K a) [] E (tCons (tOp (rI0 fun i j => .int (i + j)) (tOp (rI IntMulOk fun i j => .int (i * j)) (tFldC a.C_Ratio (tVar 0) "top") (tFldC a.C_Ratio (tVar 2) "bottom")) (tOp (rI IntMulOk fun i j => .int (i * j)) (tFldC a.C_Ratio (tVar 2) "top") (tFldC a.C_Ratio (tVar 0) "bottom"))) (tCons (tOp (rI IntMulOk fun i j => .int (i * j)) (tFldC a.C_Ratio (tVar 0) "bottom") (tFldC a.C_Ratio (tVar 2) "bottom")) tNil))))))
abbrev nm_Ratio___radd__ : List Str := ["self", "other"]
def rd_Ratio___radd__ (K : PySem.W.Frag) (a : Cl) (E : XK) : TS := (tSeq (tIfS (tNot (tB (tCall (sp_is_fraction K a) [] E (tCons (tVar 1) tNil)))) tNever tNext)
  (tRet (tOp (rOwn2 a.C_Ratio (sp_Ratio___add__ K a) E) (tCall (sp_as_ratio K a) [] E (tCons (tVar 1) tNil)) (tVar 0))))
abbrev nm_Ratio___sub__ : List Str := ["self", "other", "by"]
def rd_Ratio___sub__ (K : PySem.W.Frag) (a : Cl) (E : XK) : TS := (tSeq (tIfS (tNot (tB (tCall (sp_is_fraction K a) [] E (tCons (tVar 1) tNil)))) tNever tNext)
  (tSeq (tAsg (tCall (sp_as_ratio K a) [] E (tCons (tVar 1) tNil)) (gName 2))
  (tRet (tMake a.C_Ratio (sp_Ratio___init__ K a) [] E (tCons (tOp (rI0 fun i j => .int (i - j)) (tOp (rI IntMulOk fun i j => .int (i * j)) (tFldC a.C_Ratio (tVar 0) "top") (tFldC a.C_Ratio (tVar 2) "bottom")) (tOp (rI IntMulOk fun i j => .int (i * j)) (tFldC a.C_Ratio (tVar 2) "top") (tFldC a.C_Ratio (tVar 0) "bottom"))) (tCons (tOp (rI IntMulOk fun i j => .int (i * j)) (tFldC a.C_Ratio (tVar 0) "bottom") (tFldC a.C_Ratio (tVar 2) "bottom")) tNil))))))
abbrev nm_Ratio___rsub__ : List Str := ["self", "other"]
def rd_Ratio___rsub__ (K : PySem.W.Frag) (a : Cl) (E : XK) : TS := (tSeq (tIfS (tNot (tB (tCall (sp_is_fraction K a) [] E (tCons (tVar 1) tNil)))) tNever tNext)
  (tRet (tOp (rOwn2 a.C_Ratio (sp_Ratio___sub__ K a) E) (tCall (sp_as_ratio K a) [] E (tCons (tVar 1) tNil)) (tVar 0))))
abbrev nm_Ratio___mul__ : List Str := ["self", "other", "by"]
def rd_Ratio___mul__ (K : PySem.W.Frag) (a : Cl) (E : XK) : TS := (tSeq (tIfS (tNot (tB (tCall (sp_is_fraction K a) [] E (tCons (tVar 1) tNil)))) tNever tNext)
  (tSeq (tAsg (tCall (sp_as_ratio K a) [] E (tCons (tVar 1) tNil)) (gName 2))
  (tRet (tMake a.C_Ratio (sp_Ratio___init__ K a) [] E (tCons (tOp (rI IntMulOk fun i j => .int (i * j)) (tFldC a.C_Ratio (tVar 0) "top") (tFldC a.C_Ratio (tVar 2) "top")) (tCons (tOp (rI IntMulOk fun i j => .int (i * j)) (tFldC a.C_Ratio (tVar 0) "bottom") (tFldC a.C_Ratio (tVar 2) "bottom")) tNil))))))
abbrev nm_Ratio___rmul__ : List Str := ["self", "other"]
def rd_Ratio___rmul__ (K : PySem.W.Frag) (a : Cl) (E : XK) : TS := (tSeq (tIfS (tNot (tB (tCall (sp_is_fraction K a) [] E (tCons (tVar 1) tNil)))) tNever tNext)
  (tRet (tOp (rOwn2 a.C_Ratio (sp_Ratio___mul__ K a) E) (tCall (sp_as_ratio K a) [] E (tCons (tVar 1) tNil)) (tVar 0))))
abbrev nm_Ratio___neg__ : List Str := ["self"]
def rd_Ratio___neg__ (K : PySem.W.Frag) (a : Cl) (E : XK) : TS := (tRet (tMake a.C_Ratio (sp_Ratio___init__ K a) [] E (tCons (tUn (rU fun i => .int (-i)) (tFldC a.C_Ratio (tVar 0) "top")) (tCons (tFldC a.C_Ratio (tVar 0) "bottom") tNil))))
abbrev nm_Ratio___eq__ : List Str := ["self", "other", "by"]
def rd_Ratio___eq__ (K : PySem.W.Frag) (a : Cl) (E : XK) : TS := (tSeq (tIfS (tNot (tB (tCall (sp_is_fraction K a) [] E (tCons (tVar 1) tNil)))) (tRet (tC (.bl false))) tNext)
  (tSeq (tAsg (tCall (sp_as_ratio K a) [] E (tCons (tVar 1) tNil)) (gName 2))
  (tRet (tAndV (tOp rEq (tFldC a.C_Ratio (tVar 0) "top") (tFldC a.C_Ratio (tVar 2) "top")) (tOp rEq (tFldC a.C_Ratio (tVar 0) "bottom") (tFldC a.C_Ratio (tVar 2) "bottom"))))))
local macro_rules | `(tactic| walk_at "up") => `(tactic| first | assumption | exact upd_same | (apply SL.RatAt.up; assumption; walk_at "up") | (apply SL.Same.at; assumption; walk_at "up"))
local macro_rules | `(tactic| walk_at "s0") => `(tactic| first
  | with_reducible refine SL.go_var (by with_unfolding_all rfl) ?_
  | with_reducible refine SL.go_seq ?_
  | with_reducible refine SL.go_next ?_
  | with_reducible refine SL.go_asg ?_
  | with_reducible refine SL.go_gname ?_
  | with_reducible refine SL.go_ret ?_
  | with_reducible refine SL.go_drop ?_
  | with_reducible refine SL.go_ifs ?_
  | with_reducible refine SL.go_c ?_
  | with_reducible refine SL.go_op ?_
  | with_reducible refine SL.go_un ?_
  | with_reducible refine SL.go_I0 ?_
  | with_reducible refine SL.go_U ?_
  | with_reducible refine SL.go_test ?_
  | with_reducible refine SL.go_tb ?_
  | with_reducible refine SL.go_bl ?_
  | with_reducible refine SL.go_eqI ?_
  | with_reducible refine SL.go_neI ?_
  | with_reducible refine SL.go_eqB ?_
  | with_reducible refine SL.go_neB ?_
  | with_reducible refine SL.go_eqS ?_
  | with_reducible refine SL.go_neS ?_
  | with_reducible refine SL.go_and ?_
  | with_reducible refine SL.go_or ?_
  | with_reducible refine SL.go_not ?_
  | with_reducible refine SL.go_andV ?_
  | with_reducible refine SL.go_orV ?_
  | with_reducible refine SL.go_notV ?_
  | with_reducible refine SL.go_if ?_
  | with_reducible refine SL.go_T ?_
  | with_reducible refine SL.go_F ?_
  | with_reducible refine SL.go_nT ?_
  | with_reducible refine SL.go_nF ?_
  | with_reducible refine SL.go_nil ?_
  | with_reducible refine SL.go_cons ?_
  | with_reducible refine SL.go_call ?_
  | with_reducible refine SL.go_cb ?_
  | with_reducible refine SL.go_par ?_
  | with_reducible refine SL.go_pair ?_
  | with_reducible refine SL.go_tup ?_
  | with_reducible refine SL.go_lst ?_
  | with_reducible refine SL.go_fldC ?_
  | with_reducible refine SL.go_sfld ?_
  | with_reducible refine SL.go_sub ?_
  | with_reducible refine SL.go_sl ?_
  | with_reducible refine SL.go_noPart ?_
  | with_reducible refine SL.go_part ?_
  | with_reducible refine SL.go_partE ?_
  | with_reducible refine SL.go_abs ?_
  | with_reducible refine SL.go_max2 ?_
  | with_reducible refine SL.go_min2 ?_
  | with_reducible refine SL.go_int ?_
  | with_reducible refine SL.go_intB ?_
  | with_reducible refine SL.go_bm ?_
  | with_reducible refine SL.go_meth ?_
  | with_reducible refine SL.go_methN ?_
  | with_reducible refine SL.go_make ?_
  | with_reducible refine SL.go_makeK ?_
  | with_reducible refine SL.go_for ?_
  | with_reducible refine SL.go_iList ?_
  | with_reducible refine SL.go_iTup ?_
  | with_reducible refine SL.go_iRng1 ?_
  | with_reducible refine SL.go_iRng2 ?_
  | with_reducible refine SL.go_lc ?_
  | with_reducible refine SL.go_yes ?_
  | with_reducible refine SL.go_chain ?_
  | with_reducible refine SL.go_j ?_
  | with_reducible refine SL.go_js0 ?_
  | with_reducible refine SL.go_js ?_
  | with_reducible refine SL.go_fmt ?_
  | with_reducible refine SL.go_m1 ?_
  | with_reducible refine SL.go_ltS ?_
  | with_reducible refine SL.go_leS ?_
  | with_reducible refine SL.go_strS ?_
  | with_reducible refine SL.go_iStr ?_
  | with_reducible refine SL.go_iZip ?_
  | with_reducible refine SL.go_iKeys ?_
  | with_reducible refine SL.go_dget ?_
  | with_reducible refine SL.go_dc ?_)
local macro_rules | `(tactic| walk_at "go") => `(tactic| repeat walk_at "s0")
local macro_rules | `(tactic| walk_at "nw") => `(tactic| (refine ⟨SL.szL (by simp), fun p n => ?_⟩; generalize q : upd _ p _ = H'; have e := SL.Same.new' n q; have h := SL.at_new q; clear q))
local macro_rules | `(tactic| walk_at "nw0") => `(tactic| (intro p n; generalize q : upd _ p _ = H'; have e := SL.Same.new' n q; have h := SL.at_new q; clear q))
section
variable {K : PySem.W.Frag} {a : Cl} {vs : List V} {H : Hp} {Q : VK} {E : XK}
abbrev ends (Q : VK) : Ends := { nx := fun _ H' => Q .non H', rt := Q }

theorem read_is_integer (F : KF K a) (h : sp_is_integer K a vs H Q E) : rd_is_integer K a E (ends Q) (start nm_is_integer vs) H := by
  obtain ⟨v, t, rfl, hk, q⟩ := h
  unfold rd_is_integer
  walk_at "go"
  cases t <;> first
    | (refine isi_int (b := false) F hk rfl ?_; walk_at "go"; exact q)
    | (refine isi_int (b := true) F hk rfl ?_; walk_at "go"; first | (refine isi_bool (b := false) F hk rfl ?_; walk_at "go"; exact q) | (refine isi_bool (b := true) F hk rfl ?_; walk_at "go"; exact q))

theorem read_is_fraction (F : KF K a) (hR : a.C_Ratio ∈ a.cls) (h : sp_is_fraction K a vs H Q E) : rd_is_fraction K a E (ends Q) (start nm_is_fraction vs) H := by
  obtain ⟨v, t, rfl, hk, q⟩ := h
  unfold rd_is_fraction
  walk_at "go"
  refine ⟨v, t, rfl, hk, ?_⟩
  walk_at "go"
  refine go_d (fun e => ?_) (fun e => ?_)
  · subst e; exact q
  · walk_at "go"
    refine isi_cls F hR hk ?_
    rw [decide_eq_false e, Bool.false_or] at q
    exact q

theorem read_shared_factor (h : sp_shared_factor K a vs H Q E) : rd_shared_factor K a E (ends Q) (start nm_shared_factor vs) H := by
  obtain ⟨n, d, rfl, q⟩ := h
  unfold rd_shared_factor
  walk_at "go"
  refine ⟨fun m σ H' => ∃ x y : Int, σ = [some (.int n), some (.int d), some (.int x), some (.int y)] ∧ H' = H ∧ 0 ≤ x ∧ 0 ≤ y ∧ gI x y = gI n d ∧ m = y.toNat, ⟨_, _, _, rfl, rfl, by split <;> omega, by split <;> omega, gI_abs n d, rfl⟩, ?_⟩
  rintro m σ H' ⟨x, y, rfl, rfl, hx, hy, hg, rfl⟩
  walk_at "go"
  refine go_d (fun hy0 => ?_) (fun hy0 => ?_)
  · refine ⟨fun σ' H'' => ∃ m', m' < y.toNat ∧ ∃ x y : Int, σ' = [some (.int n), some (.int d), some (.int x), some (.int y)] ∧ H'' = H' ∧ 0 ≤ x ∧ 0 ≤ y ∧ gI x y = gI n d ∧ m' = y.toNat, fun _ _ h => h, ?_⟩
    walk_at "go"
    refine go_I (by omega) ?_
    walk_at "go"
    have e : x.fmod y = x % y := Int.fmod_eq_emod_of_nonneg x (by omega)
    have l1 := Int.emod_nonneg x (show y ≠ 0 by omega)
    have l2 := Int.emod_lt_of_pos x hy0
    refine ⟨(x.fmod y).toNat, by omega, y, x.fmod y, rfl, rfl, hy, by omega, ?_, rfl⟩
    rw [gcd_turn hx hy0]
    exact hg
  · walk_at "go"
    have e : y = 0 := by omega
    subst e
    rw [gI_zero hx] at hg
    rw [hg]
    exact q

/-! ### Ratio(..) -/
theorem init_run {G : Addr → Hp → Prop} {x dx : Addr} {n d : Int} (hd : 0 < d) (hb : Bd 8000 d) (h : ∀ p H', L2.Same H H' → RatAt a H' p (nm n d) (dn n d) → G p H') (hx : H x = none) (hdx : H dx = none) (hne : dx ≠ x) :
    sp_Ratio___init__ K a [.ref x, .int n, .int d] (upd (upd H dx (.own x)) x (.ins a.C_Ratio dx [])) (fun v H2 => v = .non ∧ G x H2) E := by
  refine ⟨x, dx, n, d, rfl, upd_same, hd, hb, fun H' k r => ⟨rfl, h x H' (fun b o e => ?_) r⟩⟩
  refine k b o (ne_of_none e hx) ?_
  rw [upd_ne (ne_of_none e hx), upd_ne (ne_of_none e hdx)]
  exact e
theorem mk_ratio {G : Addr → Hp → Prop} {n d : Int} (hd : 0 < d) (hb : Bd 8000 d) (h : ∀ p H', L2.Same H H' → RatAt a H' p (nm n d) (dn n d) → G p H') :
    ∀ x dx, H x = none → H dx = none → dx ≠ x → sp_Ratio___init__ K a (.ref x :: ([.int n, .int d] ++ [])) (upd (upd H dx (.own x)) x (.ins a.C_Ratio dx [])) (fun v H2 => v = .non ∧ G x H2) E :=
  fun x dx hx hdx hne => init_run hd hb h hx hdx hne
theorem mk_ratio1 {G : Addr → Hp → Prop} {n : Int} (h : ∀ p H', L2.Same H H' → RatAt a H' p n 1 → G p H') :
    ∀ x dx, H x = none → H dx = none → dx ≠ x → sp_Ratio___init__ K a (.ref x :: ([.int n] ++ [.int 1])) (upd (upd H dx (.own x)) x (.ins a.C_Ratio dx [])) (fun v H2 => v = .non ∧ G x H2) E :=
  fun x dx hx hdx hne => init_run (n := n) (d := 1) (by decide) (Bd.small (by decide) (by decide) (by decide)) (fun p H' e r => h p H' e (by
    have := low_self (n := n) (d := 1) (by decide) (by simp)
    rw [this.1, this.2] at r
    exact r)) hx hdx hne
theorem read_Ratio___init__ (F : KF K a) (h : sp_Ratio___init__ K a vs H Q E) : rd_Ratio___init__ K a E (ends Q) (start nm_Ratio___init__ vs) H := by
  obtain ⟨p, dx, n, d, rfl, hp, hd, hb, k⟩ := h
  unfold rd_Ratio___init__
  walk_at "go"
  refine ⟨.int n, .int, rfl, .int n, ?_⟩
  walk_at "go"
  refine go_dnT rfl ?_
  walk_at "go"
  refine ⟨.int d, .int, rfl, .int d, ?_⟩
  walk_at "go"
  refine go_dnT rfl ?_
  walk_at "go"
  refine go_dF (by omega) ?_
  walk_at "go"
  refine ⟨n, d, rfl, ?_⟩
  have g0 := gI_pos (n := n) (d := d) (by omega)
  have c : ∀ x, CDivX x (gI n d) := fun x => ⟨by omega, Nat.lt_of_lt_of_le (PySem.Flt.log2_lt_of (by decide) (Nat.lt_of_le_of_lt (gI_le hd) hb)) (by decide)⟩
  walk_at "go"
  refine go_I (c n) ?_
  walk_at "go"
  refine go_sfldE hp (by decide) ?_
  walk_at "go"
  refine go_I (c d) ?_
  walk_at "go"
  refine go_sfldE upd_same (by show 1 < 1000; decide) ?_
  walk_at "go"
  rw [upd_upd, put_tb, Int.fdiv_eq_ediv_of_nonneg n (by omega), Int.fdiv_eq_ediv_of_nonneg d (by omega)]
  exact k _ (fun b o ne e => by rw [upd_ne ne]; exact e) ⟨dx, upd_same⟩
theorem read_as_ratio (F : KF K a) (hR : a.C_Ratio ∈ a.cls) (h : sp_as_ratio K a vs H Q E) : rd_as_ratio K a E (ends Q) (start nm_as_ratio vs) H := by
  obtain ⟨v, n, d, rfl, hf, k⟩ := h
  unfold rd_as_ratio
  walk_at "go"
  rcases hf with ⟨rfl, rfl⟩ | ⟨p, rfl, hp⟩
  · refine isi_cls F hR (.int n) ?_
    walk_at "go"
    refine go_dF (by simp) ?_
    walk_at "go"
    exact mk_ratio1 k
  · refine isi_cls F hR (hp.kd hR) ?_
    walk_at "go"
    refine go_dT rfl ?_
    walk_at "go"
    exact k p H (L2.Same.refl H) hp
theorem Bd.cmul {i j : Int} {x y : Nat} (h : Bd x i) (h' : Bd y j) (hx : 0 < x := by decide) (hy : 0 < y := by decide) (hs : x + y ≤ 1000000 := by decide) : IntMulOk i j := CMulW.ok (wide_mul h h' hx hy hs)
theorem read_compared (h : sp_compared K a vs H Q E) : rd_compared K a E (ends Q) (start nm_compared vs) H := by
  obtain ⟨p, q, n1, d1, n2, d2, rfl, hp, hq, b1, b2, b3, b4, k⟩ := h
  unfold rd_compared
  walk_at "go"
  refine go_top hp ?_
  walk_at "go"
  refine go_bot hq ?_
  refine go_I (b1.cmul b4) ?_
  walk_at "go"
  refine go_top hq ?_
  walk_at "go"
  refine go_bot hp ?_
  refine go_I (b3.cmul b2) ?_
  walk_at "go"
  unfold cmpI at k
  refine go_d (fun e => ?_) (fun e => ?_)
  · walk_at "go"
    rw [if_pos e] at k
    exact k
  · rw [if_neg e] at k
    walk_at "go"
    refine go_d (fun e => ?_) (fun e => ?_)
    · rw [if_pos e] at k
      walk_at "go"
      exact k
    · rw [if_neg e] at k
      walk_at "go"
      exact k
/-- the first rows of an operator: is_fraction, as_ratio -/
theorem frac_kd {v : V} {n d : Int} (hR : a.C_Ratio ∈ a.cls) (h : Frac a H v n d) : ∃ t, Kd K a H v t ∧ (t = .int ∨ t = .cls a.C_Ratio) := by
  rcases h with ⟨rfl, rfl⟩ | ⟨p, rfl, hp⟩
  · exact ⟨.int, .int n, .inl rfl⟩
  · exact ⟨_, hp.kd hR, .inr rfl⟩
theorem is_frac {v : V} {n d : Int} (hR : a.C_Ratio ∈ a.cls) (h : Frac a H v n d) (q : Q (.bl true) H) : sp_is_fraction K a ([v] ++ []) H Q E := by
  obtain ⟨t, hk, ht⟩ := frac_kd (K := K) hR h
  refine ⟨v, t, rfl, hk, ?_⟩
  rcases ht with rfl | rfl
  · exact q
  · simpa using q
theorem read_bin {f g : Int → Int → Int → Int → Int} {tn td : TE} (hR : a.C_Ratio ∈ a.cls) (h : spBin a f g vs H Q E)
    (hn : ∀ (σ : L2.St) (p q : Addr) (n1 d1 n2 d2 : Int) (H : Hp) (R : VK), σ = [some (.ref p), σ[1]!, some (.ref q)] → RatAt a H p n1 d1 → RatAt a H q n2 d2 → Two n1 d1 n2 d2 → R (.int (f n1 d1 n2 d2)) H → tn σ H R)
    (hd : ∀ (σ : L2.St) (p q : Addr) (n1 d1 n2 d2 : Int) (H : Hp) (R : VK), σ = [some (.ref p), σ[1]!, some (.ref q)] → RatAt a H p n1 d1 → RatAt a H q n2 d2 → Two n1 d1 n2 d2 → R (.int (g n1 d1 n2 d2)) H → td σ H R)
    (hg : ∀ n1 d1 n2 d2, Two n1 d1 n2 d2 → 0 < g n1 d1 n2 d2 ∧ Bd 8000 (g n1 d1 n2 d2)) :
    (tSeq (tIfS (tNot (tB (tCall (sp_is_fraction K a) [] E (tCons (tVar 1) tNil)))) tNever tNext) (tSeq (tAsg (tCall (sp_as_ratio K a) [] E (tCons (tVar 1) tNil)) (gName 2)) (tRet (tMake a.C_Ratio (sp_Ratio___init__ K a) [] E (tCons tn (tCons td tNil)))))) (ends Q) (start ["self", "other", "by"] vs) H := by
  obtain ⟨p, v, n1, d1, n2, d2, rfl, hp, hv, two, k⟩ := h
  walk_at "go"
  refine is_frac hR hv ?_
  walk_at "go"
  refine ⟨v, n2, d2, rfl, hv, fun q H1 e1 hq => ?_⟩
  walk_at "go"
  refine hn _ p q n1 d1 n2 d2 H1 _ rfl (hp.up e1) hq two ?_
  walk_at "go"
  refine hd _ p q n1 d1 n2 d2 H1 _ rfl (hp.up e1) hq two ?_
  walk_at "go"
  exact mk_ratio (hg n1 d1 n2 d2 two).1 (hg n1 d1 n2 d2 two).2 fun r H2 e2 hr => k r H2 (L2.Same.trans e1 e2) hr

theorem Two.prod {n1 d1 n2 d2 : Int} (t : Two n1 d1 n2 d2) : 0 < d1 * d2 ∧ Bd 8000 (d1 * d2) := ⟨Int.mul_pos t.p1 t.p2, (t.b2.mul t.b4).mono (by decide)⟩
theorem read_Ratio___add__ (hR : a.C_Ratio ∈ a.cls) (h : sp_Ratio___add__ K a vs H Q E) : rd_Ratio___add__ K a E (ends Q) (start nm_Ratio___add__ vs) H := by
  refine read_bin hR h ?_ ?_ (fun _ _ _ _ t => t.prod)
  · intro σ p q n1 d1 n2 d2 H R e hp hq t k
    rw [e]
    walk_at "go"
    refine go_top hp ?_
    walk_at "go"
    refine go_bot hq (go_I (t.b1.cmul t.b4) ?_)
    walk_at "go"
    refine go_top hq ?_
    walk_at "go"
    refine go_bot hp (go_I (t.b3.cmul t.b2) ?_)
    walk_at "go"
    exact k
  · intro σ p q n1 d1 n2 d2 H R e hp hq t k
    rw [e]
    walk_at "go"
    refine go_bot hp ?_
    walk_at "go"
    refine go_bot hq (go_I (t.b2.cmul t.b4) ?_)
    exact k
theorem read_Ratio___sub__ (hR : a.C_Ratio ∈ a.cls) (h : sp_Ratio___sub__ K a vs H Q E) : rd_Ratio___sub__ K a E (ends Q) (start nm_Ratio___sub__ vs) H := by
  refine read_bin hR h ?_ ?_ (fun _ _ _ _ t => t.prod)
  · intro σ p q n1 d1 n2 d2 H R e hp hq t k
    rw [e]
    walk_at "go"
    refine go_top hp ?_
    walk_at "go"
    refine go_bot hq (go_I (t.b1.cmul t.b4) ?_)
    walk_at "go"
    refine go_top hq ?_
    walk_at "go"
    refine go_bot hp (go_I (t.b3.cmul t.b2) ?_)
    walk_at "go"
    exact k
  · intro σ p q n1 d1 n2 d2 H R e hp hq t k
    rw [e]
    walk_at "go"
    refine go_bot hp ?_
    walk_at "go"
    refine go_bot hq (go_I (t.b2.cmul t.b4) ?_)
    exact k
theorem read_Ratio___mul__ (hR : a.C_Ratio ∈ a.cls) (h : sp_Ratio___mul__ K a vs H Q E) : rd_Ratio___mul__ K a E (ends Q) (start nm_Ratio___mul__ vs) H := by
  refine read_bin hR h ?_ ?_ (fun _ _ _ _ t => t.prod)
  · intro σ p q n1 d1 n2 d2 H R e hp hq t k
    rw [e]
    walk_at "go"
    refine go_top hp ?_
    walk_at "go"
    refine go_top hq (go_I (t.b1.cmul t.b3) ?_)
    exact k
  · intro σ p q n1 d1 n2 d2 H R e hp hq t k
    rw [e]
    walk_at "go"
    refine go_bot hp ?_
    walk_at "go"
    refine go_bot hq (go_I (t.b2.cmul t.b4) ?_)
    exact k
theorem Two.symm {n1 d1 n2 d2 : Int} (t : Two n1 d1 n2 d2) : Two n2 d2 n1 d1 := ⟨t.p2, t.p1, t.b3, t.b4, t.b1, t.b2⟩
theorem go_ratR {p q : Addr} {n1 d1 n2 d2 : Int} {sp : Sp} (hp : RatAt a H p n1 d1) (hq : RatAt a H q n2 d2) (h : sp [.ref p, .ref q] H Q E) : rOwn2 a.C_Ratio sp E (.ref p) (.ref q) H Q := let ⟨_, e1⟩ := hp; let ⟨_, e2⟩ := hq; go_own2 e1 e2 h
theorem go_ratI {p : Addr} {n1 d1 i : Int} {sp : Sp} (hp : RatAt a H p n1 d1) (h : sp [.ref p, .int i] H Q E) : rOwnI a.C_Ratio sp E (.ref p) (.int i) H Q := let ⟨_, e1⟩ := hp; go_ownI e1 h
theorem go_ratF {p : Addr} {n1 d1 i : Int} {sp : Sp} (hp : RatAt a H p n1 d1) (h : sp [.ref p, .int i] H Q E) : rRefl a.C_Ratio sp E (.int i) (.ref p) H Q := let ⟨_, e1⟩ := hp; go_refl e1 h
theorem go_ratU {p : Addr} {n1 d1 : Int} {sp : Sp} (hp : RatAt a H p n1 d1) (h : sp [.ref p] H Q E) : rOwnU a.C_Ratio sp E (.ref p) H Q := let ⟨_, e1⟩ := hp; go_ownU e1 h
theorem read_rev {f g f' g' : Int → Int → Int → Int → Int} (hR : a.C_Ratio ∈ a.cls) (h : spBin a f' g' vs H Q E) (hf : ∀ n1 d1 n2 d2, f' n1 d1 n2 d2 = f n2 d2 n1 d1) (hg : ∀ n1 d1 n2 d2, g' n1 d1 n2 d2 = g n2 d2 n1 d1) :
    (tSeq (tIfS (tNot (tB (tCall (sp_is_fraction K a) [] E (tCons (tVar 1) tNil)))) tNever tNext) (tRet (tOp (rOwn2 a.C_Ratio (spBin a f g) E) (tCall (sp_as_ratio K a) [] E (tCons (tVar 1) tNil)) (tVar 0)))) (ends Q) (start ["self", "other"] vs) H := by
  obtain ⟨p, v, n1, d1, n2, d2, rfl, hp, hv, two, k⟩ := h
  walk_at "go"
  refine is_frac hR hv ?_
  walk_at "go"
  refine ⟨v, n2, d2, rfl, hv, fun q H1 e1 hq => ?_⟩
  walk_at "go"
  refine go_ratR hq (hp.up e1) ?_
  refine ⟨q, .ref p, n2, d2, n1, d1, rfl, hq, .rat (hp.up e1), two.symm, fun r H2 e2 hr => ?_⟩
  rw [← hf, ← hg] at hr
  exact k r H2 (L2.Same.trans e1 e2) hr
theorem read_Ratio___radd__ (hR : a.C_Ratio ∈ a.cls) (h : sp_Ratio___radd__ K a vs H Q E) : rd_Ratio___radd__ K a E (ends Q) (start nm_Ratio___radd__ vs) H := read_rev hR h (fun _ _ _ _ => rfl) (fun _ _ _ _ => rfl)
theorem read_Ratio___rsub__ (hR : a.C_Ratio ∈ a.cls) (h : sp_Ratio___rsub__ K a vs H Q E) : rd_Ratio___rsub__ K a E (ends Q) (start nm_Ratio___rsub__ vs) H := read_rev hR h (fun _ _ _ _ => rfl) (fun _ _ _ _ => rfl)
theorem read_Ratio___rmul__ (hR : a.C_Ratio ∈ a.cls) (h : sp_Ratio___rmul__ K a vs H Q E) : rd_Ratio___rmul__ K a E (ends Q) (start nm_Ratio___rmul__ vs) H := read_rev hR h (fun _ _ _ _ => rfl) (fun _ _ _ _ => rfl)
theorem read_Ratio_compared (hR : a.C_Ratio ∈ a.cls) (h : sp_Ratio_compared K a vs H Q E) : rd_Ratio_compared K a E (ends Q) (start nm_Ratio_compared vs) H := by
  obtain ⟨p, v, n1, d1, n2, d2, rfl, hp, hv, two, k⟩ := h
  unfold rd_Ratio_compared
  walk_at "go"
  refine is_frac hR hv ?_
  walk_at "go"
  refine ⟨v, n2, d2, rfl, hv, fun q H1 e1 hq => ?_⟩
  walk_at "go"
  exact ⟨p, q, n1, d1, n2, d2, rfl, hp.up e1, hq, two.b1, two.b2, two.b3, two.b4, k H1 e1⟩
theorem read_Ratio___neg__ (h : sp_Ratio___neg__ K a vs H Q E) : rd_Ratio___neg__ K a E (ends Q) (start nm_Ratio___neg__ vs) H := by
  obtain ⟨p, n, d, rfl, hp, hd, hb, k⟩ := h
  unfold rd_Ratio___neg__
  walk_at "go"
  refine go_top hp ?_
  walk_at "go"
  refine go_bot hp ?_
  walk_at "go"
  exact mk_ratio hd hb k
theorem read_Ratio___eq__ (hR : a.C_Ratio ∈ a.cls) (h : sp_Ratio___eq__ K a vs H Q E) : rd_Ratio___eq__ K a E (ends Q) (start nm_Ratio___eq__ vs) H := by
  obtain ⟨p, v, n, d, t, rfl, hp, hk, k⟩ := h
  unfold rd_Ratio___eq__
  walk_at "go"
  rcases k with ⟨h1, h2, k⟩ | ⟨n2, d2, hv, k⟩
  · refine ⟨v, t, rfl, hk, ?_⟩
    rw [decide_eq_false h1, decide_eq_false h2]
    walk_at "go"
    refine iteT ?_
    walk_at "go"
    exact k
  · refine is_frac hR hv ?_
    walk_at "go"
    refine ⟨v, n2, d2, rfl, hv, fun q H1 e1 hq => ?_⟩
    walk_at "go"
    refine go_top (hp.up e1) ?_
    walk_at "go"
    refine go_top hq ?_
    walk_at "go"
    have k' := k H1 e1
    refine go_d (fun e => ?_) (fun e => ?_)
    · walk_at "go"
      refine go_bot (hp.up e1) ?_
      walk_at "go"
      refine go_bot hq ?_
      walk_at "go"
      rw [decide_eq_true e] at k'
      exact k'
    · rw [decide_eq_false e] at k'
      exact k'
theorem sgn_pos {n2 d1 : Int} (h : n2 ≠ 0) (hd : 0 < d1) : 0 < sgn n2 * d1 * n2 := by
  unfold sgn
  split
  · rw [Int.one_mul]; exact Int.mul_pos hd (by omega)
  · have : 0 < d1 * (-n2) := Int.mul_pos hd (by omega)
    have e : -1 * d1 * n2 = d1 * (-n2) := by rw [Int.mul_neg, Int.neg_mul, Int.one_mul, Int.neg_mul]
    omega
theorem sgn_bd (n : Int) : Bd 64 (sgn n) := by
  unfold sgn
  split <;> exact Bd.small (by decide) (by decide) (by decide)
theorem read_Ratio_over (hR : a.C_Ratio ∈ a.cls) (h : sp_Ratio_over K a vs H Q E) : rd_Ratio_over K a E (ends Q) (start nm_Ratio_over vs) H := by
  obtain ⟨p, v, n1, d1, n2, d2, rfl, hp, hv, two, hn, k⟩ := h
  unfold rd_Ratio_over
  walk_at "go"
  refine is_frac hR hv ?_
  walk_at "go"
  refine ⟨v, n2, d2, rfl, hv, fun q0 H0 e0 hq0 => ?_⟩
  walk_at "go"
  refine go_top hq0 ?_
  walk_at "go"
  refine go_dF hn ?_
  walk_at "go"
  refine ⟨v, n2, d2, rfl, hv.up e0, fun q H1 e1 hq => ?_⟩
  have e01 := L2.Same.trans e0 e1
  have hp1 := hp.up e01
  walk_at "go"
  refine go_top hq ?_
  walk_at "go"
  have key : ∀ (R : V → Hp → Prop), R (.int (sgn n2)) H1 → (if decide (0 < n2) = true then tC (.int 1) ([some (.ref p), some v, some (.ref q), none] : L2.St) H1 R else tUn (rU fun i => .int (-i)) (tC (.int 1)) ([some (.ref p), some v, some (.ref q), none] : L2.St) H1 R) := fun R r => by
    unfold sgn at r
    refine go_d (fun e => ?_) (fun e => ?_)
    · rw [if_pos e] at r; exact r
    · rw [if_neg e] at r
      walk_at "go"
      exact r
  refine key _ ?_
  walk_at "go"
  refine go_top hp1 (go_I ((sgn_bd n2).cmul two.b1) ?_)
  walk_at "go"
  refine go_bot hq (go_I (((sgn_bd n2).mul two.b1).cmul two.b4) ?_)
  walk_at "go"
  refine go_bot hp1 (go_I ((sgn_bd n2).cmul two.b2) ?_)
  walk_at "go"
  refine go_top hq (go_I (((sgn_bd n2).mul two.b2).cmul two.b3) ?_)
  walk_at "go"
  exact mk_ratio (sgn_pos hn two.p1) ((((sgn_bd n2).mul two.b2).mul two.b3).mono (by decide)) fun r H2 e2 hr => k r H2 (L2.Same.trans e01 e2) hr
end
end SL

set_option Elab.async false
set_option linter.all false
set_option maxRecDepth 100000
set_option maxHeartbeats 4000000
namespace SL
/-! ### reckoning with lowest terms and with any terms gives the same -/
section
variable {n1 d1 n2 d2 : Int}
theorem low_add (h1 : 0 < d1) (h2 : 0 < d2) : nm (nm n1 d1 * dn n2 d2 + nm n2 d2 * dn n1 d1) (dn n1 d1 * dn n2 d2) = nm (n1 * d2 + n2 * d1) (d1 * d2) ∧ dn (nm n1 d1 * dn n2 d2 + nm n2 d2 * dn n1 d1) (dn n1 d1 * dn n2 d2) = dn (n1 * d2 + n2 * d1) (d1 * d2) := by
  refine nm_dn_eq (Int.mul_pos (dn_pos h1) (dn_pos h2)) (Int.mul_pos h1 h2) ?_
  have c1 := nm_cross n1 d1
  have c2 := nm_cross n2 d2
  rw [Int.add_mul, Int.add_mul]
  congr 1
  · calc nm n1 d1 * dn n2 d2 * (d1 * d2) = (nm n1 d1 * d1) * (dn n2 d2 * d2) := by ac_rfl
      _ = (n1 * dn n1 d1) * (dn n2 d2 * d2) := by rw [c1]
      _ = n1 * d2 * (dn n1 d1 * dn n2 d2) := by ac_rfl
  · calc nm n2 d2 * dn n1 d1 * (d1 * d2) = (nm n2 d2 * d2) * (dn n1 d1 * d1) := by ac_rfl
      _ = (n2 * dn n2 d2) * (dn n1 d1 * d1) := by rw [c2]
      _ = n2 * d1 * (dn n1 d1 * dn n2 d2) := by ac_rfl
theorem low_sub (h1 : 0 < d1) (h2 : 0 < d2) : nm (nm n1 d1 * dn n2 d2 - nm n2 d2 * dn n1 d1) (dn n1 d1 * dn n2 d2) = nm (n1 * d2 - n2 * d1) (d1 * d2) ∧ dn (nm n1 d1 * dn n2 d2 - nm n2 d2 * dn n1 d1) (dn n1 d1 * dn n2 d2) = dn (n1 * d2 - n2 * d1) (d1 * d2) := by
  refine nm_dn_eq (Int.mul_pos (dn_pos h1) (dn_pos h2)) (Int.mul_pos h1 h2) ?_
  have c1 := nm_cross n1 d1
  have c2 := nm_cross n2 d2
  rw [Int.sub_mul, Int.sub_mul]
  congr 1
  · calc nm n1 d1 * dn n2 d2 * (d1 * d2) = (nm n1 d1 * d1) * (dn n2 d2 * d2) := by ac_rfl
      _ = (n1 * dn n1 d1) * (dn n2 d2 * d2) := by rw [c1]
      _ = n1 * d2 * (dn n1 d1 * dn n2 d2) := by ac_rfl
  · calc nm n2 d2 * dn n1 d1 * (d1 * d2) = (nm n2 d2 * d2) * (dn n1 d1 * d1) := by ac_rfl
      _ = (n2 * dn n2 d2) * (dn n1 d1 * d1) := by rw [c2]
      _ = n2 * d1 * (dn n1 d1 * dn n2 d2) := by ac_rfl
theorem low_mul (h1 : 0 < d1) (h2 : 0 < d2) : nm (nm n1 d1 * nm n2 d2) (dn n1 d1 * dn n2 d2) = nm (n1 * n2) (d1 * d2) ∧ dn (nm n1 d1 * nm n2 d2) (dn n1 d1 * dn n2 d2) = dn (n1 * n2) (d1 * d2) := by
  refine nm_dn_eq (Int.mul_pos (dn_pos h1) (dn_pos h2)) (Int.mul_pos h1 h2) ?_
  have c1 := nm_cross n1 d1
  have c2 := nm_cross n2 d2
  calc nm n1 d1 * nm n2 d2 * (d1 * d2) = (nm n1 d1 * d1) * (nm n2 d2 * d2) := by ac_rfl
    _ = (n1 * dn n1 d1) * (n2 * dn n2 d2) := by rw [c1, c2]
    _ = n1 * n2 * (dn n1 d1 * dn n2 d2) := by ac_rfl
theorem low_neg (h1 : 0 < d1) : nm (-nm n1 d1) (dn n1 d1) = nm (-n1) d1 ∧ dn (-nm n1 d1) (dn n1 d1) = dn (-n1) d1 := by
  refine nm_dn_eq (dn_pos h1) h1 ?_
  rw [Int.neg_mul, Int.neg_mul, nm_cross]
theorem low_one (h1 : 0 < d1) : nm (nm n1 d1) (dn n1 d1) = nm n1 d1 ∧ dn (nm n1 d1) (dn n1 d1) = dn n1 d1 := low_self (dn_pos h1) (nm_dn_gcd (by omega))
theorem sgn_sq {n : Int} (h : n ≠ 0) : sgn n * sgn n = 1 := by unfold sgn; split <;> decide
theorem low_over (h1 : 0 < d1) (h2 : 0 < d2) (h : n2 ≠ 0) (s t : Int) (hs : s = sgn n2) (ht : t = sgn n2) : nm (s * nm n1 d1 * dn n2 d2) (s * dn n1 d1 * nm n2 d2) = nm (t * n1 * d2) (t * d1 * n2) ∧ dn (s * nm n1 d1 * dn n2 d2) (s * dn n1 d1 * nm n2 d2) = dn (t * n1 * d2) (t * d1 * n2) := by
  subst hs ht
  have g2 := gI_pos (n := n2) (d := d2) (by omega)
  have m2 := nm_mul n2 d2
  have hn : nm n2 d2 ≠ 0 := fun e => by rw [e] at m2; simp at m2; omega
  have sg : sgn (nm n2 d2) = sgn n2 := by
    unfold sgn
    by_cases q : 0 < nm n2 d2
    · have : 0 < n2 := by rw [← m2]; exact Int.mul_pos q g2
      rw [if_pos q, if_pos this]
    · have : ¬ 0 < n2 := fun z => by
        have : nm n2 d2 * gI n2 d2 ≤ 0 := Int.mul_nonpos_of_nonpos_of_nonneg (by omega) (by omega)
        omega
      rw [if_neg q, if_neg this]
  have p1 : 0 < sgn n2 * dn n1 d1 * nm n2 d2 := by rw [← sg]; exact sgn_pos hn (dn_pos h1)
  refine nm_dn_eq p1 (sgn_pos h h1) ?_
  have c1 := nm_cross n1 d1
  have c2 := nm_cross n2 d2
  calc sgn n2 * nm n1 d1 * dn n2 d2 * (sgn n2 * d1 * n2) = sgn n2 * sgn n2 * (nm n1 d1 * d1) * (n2 * dn n2 d2) := by ac_rfl
    _ = sgn n2 * sgn n2 * (n1 * dn n1 d1) * (nm n2 d2 * d2) := by rw [c1, ← c2]
    _ = sgn n2 * n1 * d2 * (sgn n2 * dn n1 d1 * nm n2 d2) := by ac_rfl
theorem sgn_nm (h2 : 0 < d2) (h : n2 ≠ 0) : sgn (nm n2 d2) = sgn n2 ∧ nm n2 d2 ≠ 0 := by
  have g2 := gI_pos (n := n2) (d := d2) (by omega)
  have m2 := nm_mul n2 d2
  have hn : nm n2 d2 ≠ 0 := fun e => by rw [e] at m2; simp at m2; omega
  refine ⟨?_, hn⟩
  unfold sgn
  by_cases q : 0 < nm n2 d2
  · have : 0 < n2 := by rw [← m2]; exact Int.mul_pos q g2
    rw [if_pos q, if_pos this]
  · have : ¬ 0 < n2 := fun z => by
      have : nm n2 d2 * gI n2 d2 ≤ 0 := Int.mul_nonpos_of_nonpos_of_nonneg (by omega) (by omega)
      omega
    rw [if_neg q, if_neg this]
theorem cmpI_scale {x y g : Int} (h : 0 < g) : cmpI (x * g) (y * g) = cmpI x y := by
  unfold cmpI
  by_cases e : x = y
  · subst e; simp
  · have e' : ¬ x * g = y * g := fun q => e (Int.eq_of_mul_eq_mul_right (by omega) q)
    rw [if_neg e, if_neg e']
    by_cases l : x < y
    · rw [if_pos l, if_pos (Int.mul_lt_mul_of_pos_right l h)]
    · have l' : ¬ x * g < y * g := fun q => l (Int.lt_of_mul_lt_mul_right q (by omega))
      rw [if_neg l, if_neg l']
theorem low_cmp (h1 : 0 < d1) (h2 : 0 < d2) : cmpI (nm n1 d1 * dn n2 d2) (nm n2 d2 * dn n1 d1) = cmpI (n1 * d2) (n2 * d1) := by
  have g1 := gI_pos (n := n1) (d := d1) (by omega)
  have g2 := gI_pos (n := n2) (d := d2) (by omega)
  have e1 : n1 * d2 = nm n1 d1 * dn n2 d2 * (gI n1 d1 * gI n2 d2) := by
    calc n1 * d2 = (nm n1 d1 * gI n1 d1) * (dn n2 d2 * gI n2 d2) := by rw [nm_mul, dn_mul]
      _ = _ := by ac_rfl
  have e2 : n2 * d1 = nm n2 d2 * dn n1 d1 * (gI n1 d1 * gI n2 d2) := by
    calc n2 * d1 = (nm n2 d2 * gI n2 d2) * (dn n1 d1 * gI n1 d1) := by rw [nm_mul, dn_mul]
      _ = _ := by ac_rfl
  rw [e1, e2, cmpI_scale (Int.mul_pos g1 g2)]
theorem low_eq (h1 : 0 < d1) (h2 : 0 < d2) : (decide (nm n1 d1 = nm n2 d2) && decide (dn n1 d1 = dn n2 d2)) = decide (n1 * d2 = n2 * d1) := by
  by_cases e : n1 * d2 = n2 * d1
  · have := nm_dn_eq h1 h2 e
    simp [this.1, this.2, e]
  · have : ¬ (nm n1 d1 = nm n2 d2 ∧ dn n1 d1 = dn n2 d2) := fun ⟨q1, q2⟩ => e (by
      have g1 := nm_mul n1 d1
      have c1 := nm_cross n1 d1
      have c2 := nm_cross n2 d2
      have dp := dn_pos (n := n1) h1
      have : (n1 * d2) * dn n1 d1 = (n2 * d1) * dn n1 d1 := by
        calc (n1 * d2) * dn n1 d1 = (n1 * dn n1 d1) * d2 := by ac_rfl
          _ = (nm n1 d1 * d1) * d2 := by rw [c1]
          _ = (nm n2 d2 * d2) * d1 := by rw [q1]; ac_rfl
          _ = (n2 * dn n2 d2) * d1 := by rw [c2]
          _ = (n2 * d1) * dn n1 d1 := by rw [q2]; ac_rfl
      exact Int.eq_of_mul_eq_mul_right (by omega) this)
    rw [decide_eq_false e]
    by_cases q1 : nm n1 d1 = nm n2 d2
    · by_cases q2 : dn n1 d1 = dn n2 d2
      · exact absurd ⟨q1, q2⟩ this
      · simp [q2]
    · simp [q1]
theorem order_eq (x y : Int) : (if decide (y < x) then (1 : Int) else 0) - (if decide (x < y) then 1 else 0) = cmpI x y := by
  unfold cmpI
  by_cases e : x = y
  · subst e; simp
  · by_cases l : x < y
    · have : ¬ y < x := by omega
      simp [e, l, this]
    · have : y < x := by omega
      simp [e, l, this]
theorem low_int (m : Int) : nm m 1 = m ∧ dn m 1 = 1 := low_self (by decide) (by simp)
variable {m : Int}
theorem low_addI (h1 : 0 < d1) : nm (nm n1 d1 * 1 + m * dn n1 d1) (dn n1 d1 * 1) = nm (n1 + m * d1) d1 ∧ dn (nm n1 d1 * 1 + m * dn n1 d1) (dn n1 d1 * 1) = dn (n1 + m * d1) d1 := by
  have h := low_add (n1 := n1) (d1 := d1) (n2 := m) (d2 := 1) h1 (by decide)
  rw [(low_int m).1, (low_int m).2, Int.mul_one n1, Int.mul_one d1] at h
  exact h
theorem low_raddI (h1 : 0 < d1) : nm (m * dn n1 d1 + nm n1 d1 * 1) (1 * dn n1 d1) = nm (n1 + m * d1) d1 ∧ dn (m * dn n1 d1 + nm n1 d1 * 1) (1 * dn n1 d1) = dn (n1 + m * d1) d1 := by
  have h := low_addI (n1 := n1) (m := m) h1
  rw [Int.add_comm, Int.mul_comm (dn n1 d1) 1] at h
  exact h
theorem low_subI (h1 : 0 < d1) : nm (nm n1 d1 * 1 - m * dn n1 d1) (dn n1 d1 * 1) = nm (n1 - m * d1) d1 ∧ dn (nm n1 d1 * 1 - m * dn n1 d1) (dn n1 d1 * 1) = dn (n1 - m * d1) d1 := by
  have h := low_sub (n1 := n1) (d1 := d1) (n2 := m) (d2 := 1) h1 (by decide)
  rw [(low_int m).1, (low_int m).2, Int.mul_one n1, Int.mul_one d1] at h
  exact h
theorem low_rsubI (h1 : 0 < d1) : nm (m * dn n1 d1 - nm n1 d1 * 1) (1 * dn n1 d1) = nm (m * d1 - n1) d1 ∧ dn (m * dn n1 d1 - nm n1 d1 * 1) (1 * dn n1 d1) = dn (m * d1 - n1) d1 := by
  have h := low_sub (n1 := m) (d1 := 1) (n2 := n1) (d2 := d1) (by decide) h1
  rw [(low_int m).1, (low_int m).2, Int.mul_one n1, Int.one_mul d1] at h
  exact h
theorem low_mulI (h1 : 0 < d1) : nm (nm n1 d1 * m) (dn n1 d1 * 1) = nm (n1 * m) d1 ∧ dn (nm n1 d1 * m) (dn n1 d1 * 1) = dn (n1 * m) d1 := by
  have h := low_mul (n1 := n1) (d1 := d1) (n2 := m) (d2 := 1) h1 (by decide)
  rw [(low_int m).1, (low_int m).2, Int.mul_one d1] at h
  exact h
theorem low_rmulI (h1 : 0 < d1) : nm (m * nm n1 d1) (1 * dn n1 d1) = nm (n1 * m) d1 ∧ dn (m * nm n1 d1) (1 * dn n1 d1) = dn (n1 * m) d1 := by
  have h := low_mulI (n1 := n1) (m := m) h1
  rw [Int.mul_comm (nm n1 d1) m, Int.mul_comm (dn n1 d1) 1] at h
  exact h
theorem low_cmpI (h1 : 0 < d1) : cmpI (nm n1 d1 * 1) (m * dn n1 d1) = cmpI n1 (m * d1) := by
  have h := low_cmp (n1 := n1) (d1 := d1) (n2 := m) (d2 := 1) h1 (by decide)
  rw [(low_int m).1, (low_int m).2, Int.mul_one n1] at h
  exact h
theorem low_eqI (h1 : 0 < d1) : (decide (nm n1 d1 = m) && decide (dn n1 d1 = 1)) = decide (n1 = m * d1) := by
  have h := low_eq (n1 := n1) (d1 := d1) (n2 := m) (d2 := 1) h1 (by decide)
  rw [(low_int m).1, (low_int m).2, Int.mul_one n1] at h
  exact h
theorem low_overI (h1 : 0 < d1) (h : m ≠ 0) : nm (sgn m * nm n1 d1 * 1) (sgn m * dn n1 d1 * m) = nm (sgn m * n1 * 1) (sgn m * d1 * m) ∧ dn (sgn m * nm n1 d1 * 1) (sgn m * dn n1 d1 * m) = dn (sgn m * n1 * 1) (sgn m * d1 * m) := by
  have q := low_over (n1 := n1) (d1 := d1) (n2 := m) (d2 := 1) h1 (by decide) h _ _ rfl rfl
  rw [(low_int m).1, (low_int m).2] at q
  exact q
end
end SL

set_option linter.all false
/-! ### a mirror of the program over plain data: values, a store of slots, combinators that run -/
namespace DY
/-- a key of a dict -/
abbrev Ky := Sum Int (List Nat)
inductive BT where
  | int | bool | str | tuple | list | dict | set
  deriving DecidableEq
/-- data: no heap; an instance is its class' number and its attributes in order -/
inductive D where
  | non
  | bl (b : Bool)
  | int (i : Int)
  | str (s : List Nat)
  | tup (xs : List D)
  | kt (xs : List D)
  | lst (xs : List D)
  | fls (xs : List D)
  | dic (kvs : List (Ky × D))
  | dct (kvs : List (List Ky × D))
  | ins (c : Nat) (fs : List D)
  | ty (t : BT)
  | cls (c : Nat)
/-- what a run gives: an end, an exception, or nothing that is told -/
inductive R (α : Type) where
  | ok (a : α)
  | ex (d : D)
  | no
@[reducible] def R.bind {α β : Type} : R α → (α → R β) → R β
  | .ok a, f => f a
  | .ex d, _ => .ex d
  | .no, _ => .no
instance : Monad R where
  pure := R.ok
  bind := R.bind
theorem bind_ok {α β : Type} {r : R α} {f : α → R β} {b : β} (h : (r >>= f) = .ok b) : ∃ a, r = .ok a ∧ f a = .ok b := by
  cases r with
  | ok a => exact ⟨a, rfl, h⟩
  | ex d => cases h
  | no => cases h
theorem ok_bind {α β : Type} {a : α} {f : α → R β} : (R.ok a >>= f) = f a := rfl
/-- a slot: nothing known; a value that nobody changes any more; an object of this def's own -/
inductive Slot where
  | un
  | sh (d : D)
  | ow (d : D)
abbrev Env := List Slot
abbrev Rv := D × Bool
abbrev Ev := Env → R (Rv × Env)
/-- the value, its object given up -/
def val (e : Ev) : Env → R (D × Env) := fun ρ => do
  let (r, ρ') ← e ρ
  pure (r.1, ρ')
def eVar (i : Nat) : Ev := fun ρ =>
  match ρ[i]? with
  | some (.sh d) => .ok ((d, false), ρ)
  | some (.ow d) => .ok ((d, false), ρ.set i (.sh d))
  | _ => .no
def eMove (i : Nat) : Ev := fun ρ =>
  match ρ[i]? with
  | some (.sh d) => .ok ((d, false), ρ)
  | some (.ow d) => .ok ((d, true), ρ.set i .un)
  | _ => .no
def eC (d : D) : Ev := fun ρ => .ok ((d, false), ρ)
def eBin (f : D → D → R Rv) (a b : Ev) : Ev := fun ρ => do
  let (x, ρ1) ← val a ρ
  let (y, ρ2) ← val b ρ1
  let r ← f x y
  pure (r, ρ2)
def eUn (f : D → R Rv) (a : Ev) : Ev := fun ρ => do
  let (x, ρ1) ← val a ρ
  let r ← f x
  pure (r, ρ1)
/-- an operation that looks at the object of slot i, without giving it up: x op slot -/
def look (ρ : Env) (i : Nat) : R D :=
  match ρ[i]? with
  | some (.sh d) => .ok d
  | some (.ow d) => .ok d
  | _ => .no
def eBor (f : D → D → R Rv) (i : Nat) (b : Ev) : Ev := fun ρ => do
  let _ ← look ρ i
  let (y, ρ1) ← val b ρ
  let d ← look ρ1 i
  let r ← f d y
  pure (r, ρ1)
/-- x op slot -/
def eBorR (f : D → D → R Rv) (a : Ev) (i : Nat) : Ev := fun ρ => do
  let (x, ρ1) ← val a ρ
  let d ← look ρ1 i
  let r ← f x d
  pure (r, ρ1)
def eBor1 (f : D → R Rv) (i : Nat) : Ev := fun ρ => do
  let d ← look ρ i
  let r ← f d
  pure (r, ρ)
def evs : List Ev → Env → R (List D × Env)
  | [], ρ => .ok ([], ρ)
  | e :: es, ρ => do
    let (x, ρ1) ← val e ρ
    let (xs, ρ2) ← evs es ρ1
    pure (x :: xs, ρ2)
def eN (f : List D → R Rv) (as : List Ev) : Ev := fun ρ => do
  let (xs, ρ1) ← evs as ρ
  let r ← f xs
  pure (r, ρ1)
def isB : D → R Bool
  | .bl b => .ok b
  | _ => .no
def eIf (t a b : Ev) : Ev := fun ρ => do
  let (x, ρ1) ← val t ρ
  let c ← isB x
  if c then a ρ1 else b ρ1
def eAnd (a b : Ev) : Ev := fun ρ => do
  let (x, ρ1) ← val a ρ
  let c ← isB x
  if c then b ρ1 else .ok ((.bl false, false), ρ1)
def eOr (a b : Ev) : Ev := fun ρ => do
  let (x, ρ1) ← val a ρ
  let c ← isB x
  if c then .ok ((.bl true, false), ρ1) else b ρ1
def eNot (a : Ev) : Ev := fun ρ => do
  let (x, ρ1) ← val a ρ
  let c ← isB x
  pure ((.bl (!c), false), ρ1)
/-- a op b op' c -/
def eChain (f g : D → D → R Rv) (a b c : Ev) : Ev := fun ρ => do
  let (x, ρ1) ← val a ρ
  let (y, ρ2) ← val b ρ1
  let r ← f x y
  let k ← isB r.1
  if k then do
    let (z, ρ3) ← val c ρ2
    let r ← g y z
    pure (r, ρ3)
  else .ok ((.bl false, false), ρ2)
/-- a def without a borrowed parameter; with one -/
abbrev Fn := List D → R Rv
abbrev FnR := List D → D → R (Rv × D)
/-- a call that lends the object of slot i -/
def eCallR (F : FnR) (pre : List Ev) (i : Nat) (post : List Ev) : Ev := fun ρ => do
  let _ ← look ρ i
  let (xs, ρ1) ← evs pre ρ
  let (ys, ρ2) ← evs post ρ1
  match ρ2[i]? with
  | some (.ow d) => do
    let (r, d') ← F (xs ++ ys) d
    pure (r, ρ2.set i (.ow d'))
  | _ => .no
/-- a call that lends a new object, its last argument -/
def eCallT (F : FnR) (pre : List Ev) (e : Ev) : Ev := fun ρ => do
  let (xs, ρ1) ← evs pre ρ
  let (t, ρ2) ← e ρ1
  if t.2 then do
    let (r, _) ← F xs t.1
    pure (r, ρ2)
  else .no
def isIns (c : Nat) : D → R Unit
  | .ins c' _ => if c' = c then .ok () else .no
  | _ => .no
/-- o.m(..), o an instance of class c; with keywords: g puts the values in the parameters' order -/
def eMeth (c : Nat) (F : Fn) (a : Ev) (ms : List Ev) : Ev := fun ρ => do
  let (x, ρ1) ← val a ρ
  isIns c x
  let (xs, ρ2) ← evs ms ρ1
  let r ← F (x :: xs)
  pure (r, ρ2)
def eMethK (c : Nat) (F : Fn) (g : List D → List D → List D) (a : Ev) (ms ks : List Ev) : Ev := fun ρ => do
  let (x, ρ1) ← val a ρ
  isIns c x
  let (xs, ρ2) ← evs ms ρ1
  let (zs, ρ3) ← evs ks ρ2
  let r ← F (g (x :: xs) zs)
  pure (r, ρ3)
/-- f(.., k = v) -/
def eNK (F : Fn) (g : List D → List D → List D) (ms ks : List Ev) : Ev := fun ρ => do
  let (xs, ρ2) ← evs ms ρ
  let (zs, ρ3) ← evs ks ρ2
  let r ← F (g xs zs)
  pure (r, ρ3)
/-- one of two readings of an operator -/
def sel (g : D → D → Bool) (f h : D → D → R Rv) : D → D → R Rv := fun x y => if g x y then f x y else h x y
def sel1 (g : D → Bool) (f h : D → R Rv) : D → R Rv := fun x => if g x then f x else h x
def isC (c : Nat) : D → Bool
  | .ins c' _ => decide (c' = c)
  | _ => false
def isI : D → Bool
  | .int _ => true
  | _ => false
def cc (c : Nat) (x y : D) : Bool := isC c x && isC c y
def ci (c : Nat) (x y : D) : Bool := isC c x && isI y
def ic (c : Nat) (x y : D) : Bool := isI x && isC c y
def hasTy : D → Bool
  | .non => true
  | .bl _ => true
  | .int _ => true
  | .str _ => true
  | .tup _ => true
  | .lst _ => true
  | .dic _ => true
  | .ins _ _ => true
  | _ => false
def cany (c : Nat) (x y : D) : Bool := isC c x && hasTy y
/-! ### statements -/
inductive Out where
  | nx | bk | ct
  | rt (r : Rv)
abbrev Sv := Env → R (Out × Env)
def sNext : Sv := fun ρ => .ok (.nx, ρ)
def sBreak : Sv := fun ρ => .ok (.bk, ρ)
def sCont : Sv := fun ρ => .ok (.ct, ρ)
def sNo : Sv := fun _ => .no
def sSeq (s t : Sv) : Sv := fun ρ => do
  let (o, ρ1) ← s ρ
  match o with
  | .nx => t ρ1
  | o => .ok (o, ρ1)
/-- what a name holds then: its own object, if it is new and w says so -/
def keep (w : Bool) (r : Rv) : Slot := if r.2 && w then .ow r.1 else .sh r.1
def sAsg (w : Bool) (i : Nat) (e : Ev) : Sv := fun ρ => do
  let (r, ρ1) ← e ρ
  pure (.nx, ρ1.set i (keep w r))
def sPar (w : Bool) (i j : Nat) (a b : Ev) : Sv := fun ρ => do
  let (r, ρ1) ← a ρ
  let (q, ρ2) ← b ρ1
  pure (.nx, (ρ2.set i (keep w r)).set j (keep w q))
abbrev Tg := D → Env → R Env
def gN (i : Nat) : Tg := fun d ρ => .ok (ρ.set i (.sh d))
def gGo : List Tg → List D → Env → R Env
  | [], [], ρ => .ok ρ
  | g :: gs, d :: ds, ρ => do
    let ρ1 ← g d ρ
    gGo gs ds ρ1
  | _, _, _ => .no
def gT (gs : List Tg) : Tg := fun d ρ =>
  match d with
  | .tup ds => gGo gs ds ρ
  | .kt ds => gGo gs ds ρ
  | _ => .no
def sAsgT (g : Tg) (e : Ev) : Sv := fun ρ => do
  let (x, ρ1) ← val e ρ
  let ρ2 ← g x ρ1
  pure (.nx, ρ2)
def sExpr (e : Ev) : Sv := fun ρ => do
  let (_, ρ1) ← val e ρ
  pure (.nx, ρ1)
def sRet (e : Ev) : Sv := fun ρ => do
  let (r, ρ1) ← e ρ
  pure (.rt r, ρ1)
/-- return x, x a local name: its object goes out -/
def sRetV (i : Nat) : Sv := fun ρ => do
  let (r, ρ1) ← eMove i ρ
  pure (.rt r, ρ1)
def sRetN : Sv := fun ρ => .ok (.rt (.non, false), ρ)
def sIf (t : Ev) (a b : Sv) : Sv := fun ρ => do
  let (x, ρ1) ← val t ρ
  let c ← isB x
  if c then a ρ1 else b ρ1
abbrev Iv := Env → R (List D × Env)
def forGo (g : Tg) (body : Sv) : List D → Env → R (Out × Env)
  | [], ρ => .ok (.nx, ρ)
  | d :: ds, ρ => do
    let ρ1 ← g d ρ
    let (o, ρ2) ← body ρ1
    match o with
    | .nx => forGo g body ds ρ2
    | .ct => forGo g body ds ρ2
    | .bk => .ok (.nx, ρ2)
    | .rt r => .ok (.rt r, ρ2)
def sFor (it : Iv) (g : Tg) (body : Sv) : Sv := fun ρ => do
  let (ds, ρ1) ← it ρ
  forGo g body ds ρ1
def whileGo (t : Ev) (body : Sv) (n : Nat) : Env → R (Out × Env) :=
  Nat.rec (fun _ => .no) (fun _ ih ρ => do
    let (x, ρ1) ← val t ρ
    let c ← isB x
    if c then do
      let (o, ρ2) ← body ρ1
      match o with
      | .nx => ih ρ2
      | .ct => ih ρ2
      | .bk => .ok (.nx, ρ2)
      | .rt r => .ok (.rt r, ρ2)
    else .ok (.nx, ρ1)) n
def fuel : Nat := 2 ^ 9000
def sWhile (t : Ev) (body : Sv) : Sv := fun ρ => whileGo t body fuel ρ
/-- slot i's own object is changed by f; the answer -/
def isL : D → R Unit
  | .lst _ => .ok ()
  | _ => .no
def eMut (f : D → List D → R (D × D)) (i : Nat) (as : List Ev) : Ev := fun ρ => do
  let d0 ← look ρ i
  isL d0
  let (xs, ρ1) ← evs as ρ
  match ρ1[i]? with
  | some (.ow d) => do
    let (r, d') ← f d xs
    pure ((r, false), ρ1.set i (.ow d'))
  | _ => .no
/-- slot[e] = v : the value first -/
def sPut (f : D → D → D → R D) (i : Nat) (e v : Ev) : Sv := fun ρ => do
  let (y, ρ1) ← val v ρ
  let _ ← look ρ1 i
  let (x, ρ2) ← val e ρ1
  match ρ2[i]? with
  | some (.ow d) => do
    let d' ← f d x y
    pure (.nx, ρ2.set i (.ow d'))
  | _ => .no
/-- self.f = e, the k-th attribute -/
def sFld (c k : Nat) (e : Ev) : Sv := fun ρ => do
  let (y, ρ1) ← val e ρ
  match (ρ1[0]? : Option Slot) with
  | some (.ow (.ins c' fs)) => if c' = c ∧ k = fs.length then .ok (.nx, ρ1.set 0 (.ow (.ins c' (fs ++ [y])))) else .no
  | _ => .no
/-- x.get(k, z): x a value; the object of slot i -/
def eGet (f : D → D → D → R Rv) (a k z : Ev) : Ev := fun ρ => do
  let (x, ρ1) ← val a ρ
  let (y, ρ2) ← val k ρ1
  let (w, ρ3) ← val z ρ2
  let r ← f x y w
  pure (r, ρ3)
def eGetS (f : D → D → D → R Rv) (i : Nat) (k z : Ev) : Ev := fun ρ => do
  let d0 ← look ρ i
  let (y, ρ2) ← val k ρ
  let (w, ρ3) ← val z ρ2
  let d ← look ρ3 i
  let _ ← f d0 y w
  let r ← f d y w
  pure (r, ρ3)
/-! ### comprehensions -/
def wipeS (ρ : Env) : List Nat → Env
  | [] => ρ
  | i :: is => (wipeS ρ is).set i .un
/-- the slots vs as they were in ρ0 -/
def backS (ρ0 ρ : Env) : List Nat → Env
  | [] => ρ
  | i :: is => (backS ρ0 ρ is).set i (ρ0.getD i .un)
def noOw (ρ : Env) (vs : List Nat) : Bool := vs.all fun i => match ρ[i]? with | some (.ow _) => false | some _ => true | none => false
/-- the tests of a comprehension -/
def cond : Option Ev → Env → R (Bool × Env)
  | none, ρ => .ok (true, ρ)
  | some t, ρ => do
    let (x, ρ') ← val t ρ
    let b ← isB x
    pure (b, ρ')
def lcGo (g : Tg) (c : Option Ev) (e : Ev) (vs : List Nat) : List D → List D → Env → R (List D × Env)
  | [], acc, ρ => .ok (acc, ρ)
  | d :: ds, acc, ρ => do
    let ρ1 ← g d (wipeS ρ vs)
    let (k, ρ2) ← cond c ρ1
    if k then do
      let (y, ρ3) ← val e ρ2
      lcGo g c e vs ds (acc ++ [y]) ρ3
    else lcGo g c e vs ds acc ρ2
def eLc (it : Iv) (g : Tg) (c : Option Ev) (e : Ev) (vs : List Nat) : Ev := fun ρ => do
  let (ds, ρ1) ← it ρ
  if noOw ρ1 vs && decide (ds.length ≤ 1000) then do
    let (acc, ρ2) ← lcGo g c e vs ds [] ρ1
    pure ((.lst acc, true), backS ρ1 ρ2 vs)
  else .no
/-! ### dicts -/
section
variable {κ : Type} [DecidableEq κ]
def dget (kvs : List (κ × D)) (k : κ) : Option D := (kvs.find? fun kv => decide (kv.1 = k)).map (·.2)
def dput (kvs : List (κ × D)) (k : κ) (v : D) : List (κ × D) :=
  if (kvs.any fun kv => decide (kv.1 = k)) = true then kvs.map (fun kv => if kv.1 = k then (kv.1, v) else kv) else kvs ++ [(k, v)]
end
def keyOf : D → R Ky
  | .int i => .ok (.inl i)
  | .str s => .ok (.inr s)
  | _ => .no
def keysOf : List D → R (List Ky)
  | [] => .no
  | [d] => do
    let k ← keyOf d
    pure [k]
  | d :: ds => do
    let k ← keyOf d
    let ks ← keysOf ds
    pure (k :: ks)
def kyD : Ky → D
  | .inl i => .int i
  | .inr s => .str s
def dcGo (g : Tg) (c : Option Ev) (ek ev : Ev) (vs : List Nat) : List D → List (Ky × D) → Env → R (List (Ky × D) × Env)
  | [], acc, ρ => .ok (acc, ρ)
  | d :: ds, acc, ρ => do
    let ρ1 ← g d (wipeS ρ vs)
    let (k, ρ2) ← cond c ρ1
    if k then do
      let (y, ρ3) ← val ek ρ2
      let (z, ρ4) ← val ev ρ3
      let q ← keyOf y
      dcGo g c ek ev vs ds (dput acc q z) ρ4
    else dcGo g c ek ev vs ds acc ρ2
def eDc (it : Iv) (g : Tg) (c : Option Ev) (ek ev : Ev) (vs : List Nat) : Ev := fun ρ => do
  let (ds, ρ1) ← it ρ
  if noOw ρ1 vs && decide (ds.length ≤ 1000) then do
    let (acc, ρ2) ← dcGo g c ek ev vs ds [] ρ1
    pure ((.dic acc, true), backS ρ1 ρ2 vs)
  else .no
/-! ### defs -/
def slots (n : Nat) (ds : List D) : Env := ds.map Slot.sh ++ List.replicate (n - ds.length) .un
def endOf : Out → R Rv
  | .nx => .ok (.non, false)
  | .rt r => .ok r
  | _ => .no
def mkFn (n p : Nat) (body : Sv) : Fn := fun ds =>
  if ds.length = p then do
    let (o, _) ← body (slots n ds)
    endOf o
  else .no
/-- the parameter at j is lent -/
def mkFnR (n p j : Nat) (body : Sv) : FnR := fun ds d =>
  if ds.length + 1 = p ∧ j < p then do
    let (o, ρ) ← body ((slots n (ds.take j ++ d :: ds.drop j)).set j (.ow d))
    let r ← endOf o
    match ρ[j]? with
    | some (.ow d') => .ok (r, d')
    | _ => .no
  else .no
/-- C(..) by its __init__: self is lent -/
def mkObj (c : Nat) (init : FnR) : Fn := fun ds => do
  let (r, d) ← init ds (.ins c [])
  match r with
  | (.non, false) => .ok (d, false)
  | _ => .no
end DY

set_option Elab.async false
set_option linter.all false
set_option maxRecDepth 100000
set_option maxHeartbeats 4000000
/-! ### data in the layer's heap -/
namespace DY
open PySem L2
def S (l : List Nat) : Str := ⟨l.toArray⟩
theorem S_inj {a b : List Nat} (h : S a = S b) : a = b := by
  have : a.toArray = b.toArray := congrArg Str.cps h
  exact List.toArray_inj this
theorem S_cps (x : Str) : S x.cps.toList = x := by cases x; rfl
def kK : Ky → Key
  | .inl i => .inl i
  | .inr l => .inr (S l)
theorem kK_inj {a b : Ky} (h : kK a = kK b) : a = b := by
  cases a <;> cases b <;> simp [kK] at h
  · rw [h]
  · rw [S_inj h]
def BT.nm : BT → String
  | .int => "int" | .bool => "bool" | .str => "str" | .tuple => "tuple" | .list => "list" | .dict => "dict" | .set => "set"
/-- the classes: where they stand, their attributes in order -/
structure CT where
  ad : Nat → Addr
  nms : Nat → List Str
  cs : List Nat
variable (K : PySem.W.Frag) (A : CT)
mutual
inductive Rep (G : Hp) : V → D → Prop
  | non : Rep G .non .non
  | bl (b : Bool) : Rep G (.bl b) (.bl b)
  | int (i : Int) : Rep G (.int i) (.int i)
  | str (l : List Nat) : Rep G (.str (S l)) (.str l)
  | ty (t : BT) : Rep G (.ty t.nm) (.ty t)
  | cls (c : Nat) : c ∈ A.cs → Rep G (.ref (A.ad c)) (.cls c)
  | lst {p : Addr} {vs : List V} {ds : List D} : G p = some (.lst vs) → Reps G vs ds → Rep G (.ref p) (.lst ds)
  | fls {p : Addr} {vs : List V} {ds : List D} : SqL K G p vs → Reps G vs ds → Rep G (.ref p) (.fls ds)
  | tup {p : Addr} {o : Obj} {vs : List V} {ds : List D} : o.dict = none → G p = some (.frz o (.tup vs)) → Reps G vs ds → Rep G (.ref p) (.tup ds)
  | emp {p : Addr} {o : Obj} {n : Nat} : K.lookup p = some o → o.cls = .type "tuple" → o.dict = none → o.data = .seq #[] n → Rep G (.ref p) (.tup [])
  | kt {p : Addr} {vs : List V} {ds : List D} : G p = some (.tup vs) → Reps G vs ds → Rep G (.ref p) (.kt ds)
  | dic {p : Addr} {kvs : List (Key × V)} {ds : List (Ky × D)} : G p = some (.dK kvs) → RepK G kvs ds → Rep G (.ref p) (.dic ds)
  | dct {p : Addr} {kvs : List (List Key × V)} {ds : List (List Ky × D)} : G p = some (.dT kvs) → RepT G kvs ds → Rep G (.ref p) (.dct ds)
  | ins {p dx : Addr} {c : Nat} {vs : List V} {ds : List D} : G p = some (.ins (A.ad c) dx ((A.nms c).zip vs)) → vs.length ≤ (A.nms c).length → c ∈ A.cs → Reps G vs ds → Rep G (.ref p) (.ins c ds)
inductive Reps (G : Hp) : List V → List D → Prop
  | nil : Reps G [] []
  | cons {v : V} {d : D} {vs : List V} {ds : List D} : Rep G v d → Reps G vs ds → Reps G (v :: vs) (d :: ds)
inductive RepK (G : Hp) : List (Key × V) → List (Ky × D) → Prop
  | nil : RepK G [] []
  | cons {k : Ky} {v : V} {d : D} {vs : List (Key × V)} {ds : List (Ky × D)} : Rep G v d → RepK G vs ds → RepK G ((kK k, v) :: vs) ((k, d) :: ds)
inductive RepT (G : Hp) : List (List Key × V) → List (List Ky × D) → Prop
  | nil : RepT G [] []
  | cons {k : List Ky} {v : V} {d : D} {vs : List (List Key × V)} {ds : List (List Ky × D)} : Rep G v d → RepT G vs ds → RepT G ((k.map kK, v) :: vs) ((k, d) :: ds)
end
variable {K : PySem.W.Frag} {A : CT} {G G' G1 G2 H H' H1 H2 : Hp}
theorem sqL_same {p : Addr} {xs : List V} (e : L2.Same G G') (h : SqL K G p xs) : SqL K G' p xs := by
  rcases h with (h | ⟨o, h⟩) | h
  · exact .inl (.inl (e _ _ h))
  · exact .inl (.inr ⟨o, e _ _ h⟩)
  · exact .inr h
theorem sqT_same {p : Addr} {xs : List V} (e : L2.Same G G') (h : SqT K G p xs) : SqT K G' p xs := by
  rcases h with (h | ⟨o, h⟩) | h
  · exact .inl (.inl (e _ _ h))
  · exact .inl (.inr ⟨o, e _ _ h⟩)
  · exact .inr h
mutual
theorem Rep.mono (e : L2.Same G G') : ∀ {v : V} {d : D}, Rep K A G v d → Rep K A G' v d
  | _, _, .non => .non
  | _, _, .bl b => .bl b
  | _, _, .int i => .int i
  | _, _, .str l => .str l
  | _, _, .ty t => .ty t
  | _, _, .cls c h => .cls c h
  | _, _, .lst h r => .lst (e _ _ h) (Reps.mono e r)
  | _, _, .fls h r => .fls (sqL_same e h) (Reps.mono e r)
  | _, _, .tup n h r => .tup n (e _ _ h) (Reps.mono e r)
  | _, _, .emp a b c d => .emp a b c d
  | _, _, .kt h r => .kt (e _ _ h) (Reps.mono e r)
  | _, _, .dic h r => .dic (e _ _ h) (RepK.mono e r)
  | _, _, .dct h r => .dct (e _ _ h) (RepT.mono e r)
  | _, _, .ins h l c r => .ins (e _ _ h) l c (Reps.mono e r)
theorem Reps.mono (e : L2.Same G G') : ∀ {vs : List V} {ds : List D}, Reps K A G vs ds → Reps K A G' vs ds
  | _, _, .nil => .nil
  | _, _, .cons h r => .cons (Rep.mono e h) (Reps.mono e r)
theorem RepK.mono (e : L2.Same G G') : ∀ {vs : List (Key × V)} {ds : List (Ky × D)}, RepK K A G vs ds → RepK K A G' vs ds
  | _, _, .nil => .nil
  | _, _, .cons h r => .cons (Rep.mono e h) (RepK.mono e r)
theorem RepT.mono (e : L2.Same G G') : ∀ {vs : List (List Key × V)} {ds : List (List Ky × D)}, RepT K A G vs ds → RepT K A G' vs ds
  | _, _, .nil => .nil
  | _, _, .cons h r => .cons (Rep.mono e h) (RepT.mono e r)
end
theorem Reps.len {vs : List V} {ds : List D} (h : Reps K A G vs ds) : vs.length = ds.length := by
  induction vs generalizing ds with
  | nil => cases h; rfl
  | cons v vs ih => cases h with | cons _ r => rw [List.length_cons, List.length_cons, ih r]
theorem Reps.inv1 {vs : List V} {d : D} (h : Reps K A G vs [d]) : ∃ v, vs = [v] ∧ Rep K A G v d := by
  cases h with | cons a r => cases r; exact ⟨_, rfl, a⟩
theorem Reps.inv2 {vs : List V} {d e : D} (h : Reps K A G vs [d, e]) : ∃ v w, vs = [v, w] ∧ Rep K A G v d ∧ Rep K A G w e := by
  cases h with | cons a r => cases r with | cons b r => cases r; exact ⟨_, _, rfl, a, b⟩
theorem Reps.inv3 {vs : List V} {d e f : D} (h : Reps K A G vs [d, e, f]) : ∃ v w u, vs = [v, w, u] ∧ Rep K A G v d ∧ Rep K A G w e ∧ Rep K A G u f := by
  cases h with | cons a r => cases r with | cons b r => cases r with | cons c r => cases r; exact ⟨_, _, _, rfl, a, b, c⟩
theorem Reps.append {vs ws : List V} {ds es : List D} (h : Reps K A G vs ds) (h' : Reps K A G ws es) : Reps K A G (vs ++ ws) (ds ++ es) := by
  induction vs generalizing ds with
  | nil => cases h; exact h'
  | cons v vs ih => cases h with | cons a r => exact .cons a (ih r)
theorem Reps.get {vs : List V} {ds : List D} {i : Nat} {v : V} (h : Reps K A G vs ds) (e : vs[i]? = some v) : ∃ d, ds[i]? = some d ∧ Rep K A G v d := by
  induction vs generalizing ds i with
  | nil => simp at e
  | cons w vs ih =>
    cases h with
    | cons a r =>
      cases i with
      | zero => simp at e; subst e; exact ⟨_, rfl, a⟩
      | succ i => exact ih (i := i) r (by simpa using e)
theorem Reps.get' {vs : List V} {ds : List D} {i : Nat} {d : D} (h : Reps K A G vs ds) (e : ds[i]? = some d) : ∃ v, vs[i]? = some v ∧ Rep K A G v d := by
  induction vs generalizing ds i with
  | nil => cases h; simp at e
  | cons w vs ih =>
    cases h with
    | cons a r =>
      cases i with
      | zero => simp at e; subst e; exact ⟨_, rfl, a⟩
      | succ i => exact ih (i := i) r (by simpa using e)
theorem Reps.take {vs : List V} {ds : List D} (h : Reps K A G vs ds) (n : Nat) : Reps K A G (vs.take n) (ds.take n) := by
  induction vs generalizing ds n with
  | nil => cases h; simp; exact .nil
  | cons w vs ih =>
    cases h with
    | cons a r => cases n with
      | zero => exact .nil
      | succ n => exact .cons a (ih r n)
theorem Reps.drop {vs : List V} {ds : List D} (h : Reps K A G vs ds) (n : Nat) : Reps K A G (vs.drop n) (ds.drop n) := by
  induction vs generalizing ds n with
  | nil => cases h; simp; exact .nil
  | cons w vs ih =>
    cases h with
    | cons a r => cases n with
      | zero => exact .cons a r
      | succ n => exact ih r n
theorem Reps.set {vs : List V} {ds : List D} {v : V} {d : D} (h : Reps K A G vs ds) (hv : Rep K A G v d) (n : Nat) : Reps K A G (vs.set n v) (ds.set n d) := by
  induction vs generalizing ds n with
  | nil => cases h; simp; exact .nil
  | cons w vs ih =>
    cases h with
    | cons a r => cases n with
      | zero => exact .cons hv r
      | succ n => exact .cons a (ih r n)
/-- dicts may be walked while they are known -/
def isD : HO → Prop
  | .dK _ => True
  | .dT _ => True
  | _ => False
def Sub (G H : Hp) : Prop := ∀ p o, G p = some o → H p = some o ∨ (isD o ∧ ∃ ob, H p = some (.frz ob o))
theorem Sub.refl (H : Hp) : Sub H H := fun _ _ h => .inl h
theorem Sub.ex {p : Addr} {o : HO} (s : Sub G H) (h : G p = some o) : ∃ u, H p = some u := by
  rcases s p o h with h | ⟨_, ob, h⟩
  · exact ⟨_, h⟩
  · exact ⟨_, h⟩
theorem Sub.sqL {p : Addr} {xs : List V} (s : Sub G H) (h : SqL K G p xs) : SqL K H p xs := by
  rcases h with (h | ⟨o, h⟩) | h
  · rcases s _ _ h with h | ⟨z, _⟩
    · exact .inl (.inl h)
    · exact z.elim
  · rcases s _ _ h with h | ⟨z, _⟩
    · exact .inl (.inr ⟨o, h⟩)
    · exact z.elim
  · exact .inr h
theorem Sub.sqT {p : Addr} {xs : List V} (s : Sub G H) (h : SqT K G p xs) : SqT K H p xs := by
  rcases h with (h | ⟨o, h⟩) | h
  · rcases s _ _ h with h | ⟨z, _⟩
    · exact .inl (.inl h)
    · exact z.elim
  · rcases s _ _ h with h | ⟨z, _⟩
    · exact .inl (.inr ⟨o, h⟩)
    · exact z.elim
  · exact .inr h
theorem Sub.ins {p C dx : Addr} {fs : List (Str × V)} (s : Sub G H) (h : G p = some (.ins C dx fs)) : H p = some (.ins C dx fs) := by
  rcases s _ _ h with h | ⟨z, _⟩
  · exact h
  · exact z.elim
theorem Sub.lst {p : Addr} {vs : List V} (s : Sub G H) (h : G p = some (.lst vs)) : H p = some (.lst vs) := by
  rcases s _ _ h with h | ⟨z, _⟩
  · exact h
  · exact z.elim
theorem Sub.tup {p : Addr} {vs : List V} (s : Sub G H) (h : G p = some (.tup vs)) : H p = some (.tup vs) := by
  rcases s _ _ h with h | ⟨z, _⟩
  · exact h
  · exact z.elim
theorem Sub.frt {p : Addr} {o : Obj} {vs : List V} (s : Sub G H) (h : G p = some (.frz o (.tup vs))) : H p = some (.frz o (.tup vs)) := by
  rcases s _ _ h with h | ⟨z, _⟩
  · exact h
  · exact z.elim
theorem sqT_emp {p : Addr} {o : Obj} {n : Nat} (a : K.lookup p = some o) (b : o.cls = .type "tuple") (d : o.data = .seq #[] n) : SqT K H p [] := .inr ⟨o, #[], n, a, b, d, Nat.zero_le _, .nil⟩
theorem Rep.sqT {v : V} {ds : List D} (h : Rep K A G v (.tup ds)) (s : Sub G H) : ∃ p vs, v = .ref p ∧ SqT K H p vs ∧ Reps K A G vs ds := by
  cases h with
  | tup n h r => exact ⟨_, _, rfl, .inl (.inr ⟨_, s.frt h⟩), r⟩
  | emp a b c d => exact ⟨_, _, rfl, sqT_emp a b d, .nil⟩
theorem Rep.sqK {v : V} {ds : List D} (h : Rep K A G v (.kt ds)) (s : Sub G H) : ∃ p vs, v = .ref p ∧ H p = some (.tup vs) ∧ Reps K A G vs ds := by
  cases h with
  | kt h r => exact ⟨_, _, rfl, s.tup h, r⟩
theorem Sub.dK {p : Addr} {kvs : List (Key × V)} (s : Sub G H) (h : G p = some (.dK kvs)) : Rd H p (.dK kvs) := by
  rcases s _ _ h with h | ⟨_, ob, h⟩
  · exact .inl h
  · exact .inr ⟨ob, h⟩
theorem Sub.dT {p : Addr} {kvs : List (List Key × V)} (s : Sub G H) (h : G p = some (.dT kvs)) : Rd H p (.dT kvs) := by
  rcases s _ _ h with h | ⟨_, ob, h⟩
  · exact .inl h
  · exact .inr ⟨ob, h⟩
/-- an object of one's own -/
def Has (K : PySem.W.Frag) (A : CT) (G H : Hp) (p : Addr) : D → Prop
  | .lst ds => ∃ vs, H p = some (.lst vs) ∧ Reps K A G vs ds
  | .dic ds => ∃ kvs, H p = some (.dK kvs) ∧ RepK K A G kvs ds
  | .dct ds => ∃ kvs, H p = some (.dT kvs) ∧ RepT K A G kvs ds
  | .ins c ds => ∃ dx vs, H p = some (.ins (A.ad c) dx ((A.nms c).zip vs)) ∧ vs.length ≤ (A.nms c).length ∧ c ∈ A.cs ∧ Reps K A G vs ds
  | _ => False
theorem Has.ex {p : Addr} {d : D} (h : Has K A G H p d) : ∃ o, H p = some o := by
  cases d with
  | lst ds => obtain ⟨vs, h, _⟩ := h; exact ⟨_, h⟩
  | dic ds => obtain ⟨vs, h, _⟩ := h; exact ⟨_, h⟩
  | dct ds => obtain ⟨vs, h, _⟩ := h; exact ⟨_, h⟩
  | ins c ds => obtain ⟨_, vs, h, _⟩ := h; exact ⟨_, h⟩
  | _ => exact h.elim
theorem Has.mono {p : Addr} {d : D} (h : Has K A G H p d) (e : L2.Same G G') (k : ∀ o, H p = some o → H' p = some o) : Has K A G' H' p d := by
  cases d with
  | lst ds => obtain ⟨vs, h, r⟩ := h; exact ⟨vs, k _ h, r.mono e⟩
  | dic ds => obtain ⟨vs, h, r⟩ := h; exact ⟨vs, k _ h, r.mono e⟩
  | dct ds => obtain ⟨vs, h, r⟩ := h; exact ⟨vs, k _ h, r.mono e⟩
  | ins c ds => obtain ⟨dx, vs, h, l, c, r⟩ := h; exact ⟨dx, vs, k _ h, l, c, r.mono e⟩
  | _ => exact h.elim
theorem Has.frz {p : Addr} {d : D} (h : Has K A G H p d) (n : G p = none) : ∃ o, H p = some o ∧ Rep K A (upd G p o) (.ref p) d := by
  have e : ∀ o, L2.Same G (upd G p o) := fun o => SL.Same.new n
  cases d with
  | lst ds => obtain ⟨vs, h, r⟩ := h; exact ⟨_, h, .lst upd_same (r.mono (e _))⟩
  | dic ds => obtain ⟨vs, h, r⟩ := h; exact ⟨_, h, .dic upd_same (r.mono (e _))⟩
  | dct ds => obtain ⟨vs, h, r⟩ := h; exact ⟨_, h, .dct upd_same (r.mono (e _))⟩
  | ins c ds => obtain ⟨dx, vs, h, l, c, r⟩ := h; exact ⟨_, h, .ins upd_same l c (r.mono (e _))⟩
  | _ => exact h.elim
/-! ### slots -/
def SlotOk (K : PySem.W.Frag) (A : CT) (G H : Hp) (ov : Option V) : Slot → Prop
  | .un => True
  | .sh d => ∃ v, ov = some v ∧ Rep K A G v d
  | .ow d => ∃ p, ov = some (.ref p) ∧ G p = none ∧ Has K A G H p d
def Own (σ : L2.St) (ρ : Env) (i : Nat) (p : Addr) : Prop := (∃ d, ρ[i]? = some (.ow d)) ∧ σ[i]? = some (some (.ref p))
def OwnS (σ : L2.St) (ρ : Env) (p : Addr) : Prop := ∃ i, Own σ ρ i p
structure St (K : PySem.W.Frag) (A : CT) (σ : L2.St) (G H : Hp) (ρ : Env) : Prop where
  sub : Sub G H
  len : σ.length = ρ.length
  slot : ∀ i s, ρ[i]? = some s → SlotOk K A G H (σ.getD i none) s
  dist : ∀ i j p, Own σ ρ i p → Own σ ρ j p → i = j
/-- what may have changed -/
structure Ext (O : Addr → Prop) (G H G' H' : Hp) : Prop where
  gs : L2.Same G G'
  fr : ∀ p, G' p ≠ none → G p ≠ none ∨ H p = none ∨ O p
  hs : ∀ p o, H p = some o → ¬ O p → H' p = some o
  there : ∀ p, H p ≠ none → H' p ≠ none
theorem Ext.refl (O : Addr → Prop) (G H : Hp) : Ext O G H G H := ⟨fun _ _ h => h, fun _ h => .inl h, fun _ _ h _ => h, fun _ h => h⟩
theorem Ext.weak {O O' : Addr → Prop} (e : Ext O G H G' H') (h : ∀ p, O p → O' p) : Ext O' G H G' H' :=
  ⟨e.gs, fun p z => (e.fr p z).imp id fun z => z.imp id (h p), fun p o a n => e.hs p o a fun z => n (h p z), e.there⟩
theorem Ext.trans {O O' : Addr → Prop} (a : Ext O G H G1 H1) (b : Ext O' G1 H1 G2 H2) (h : ∀ p, O' p → O p ∨ H p = none) : Ext O G H G2 H2 where
  gs := fun p o z => b.gs p o (a.gs p o z)
  fr := fun p z => by
    rcases b.fr p z with z | z | z
    · exact a.fr p z
    · refine .inr (.inl ?_)
      cases q : H p with
      | none => rfl
      | some o => exact absurd z (a.there p (by rw [q]; exact fun x => nomatch x))
    · exact .inr ((h p z).elim .inr .inl)
  hs := fun p o z n => by
    refine b.hs p o (a.hs p o z n) fun q => ?_
    rcases h p q with q | q
    · exact n q
    · rw [z] at q; cases q
  there := fun p z => b.there p (a.there p z)
/-- behind an evaluation -/
structure Nx (K : PySem.W.Frag) (A : CT) (σ : L2.St) (G H : Hp) (ρ : Env) (G' H' : Hp) (ρ' : Env) : Prop where
  ext : Ext (OwnS σ ρ) G H G' H'
  st : St K A σ G' H' ρ'
  own : ∀ i p, Own σ ρ' i p → Own σ ρ i p
section
variable {σ : L2.St} {ρ ρ1 ρ2 ρ' : Env}
theorem Nx.refl (s : St K A σ G H ρ) : Nx K A σ G H ρ G H ρ := ⟨Ext.refl _ _ _, s, fun _ _ h => h⟩
theorem Nx.trans (a : Nx K A σ G H ρ G1 H1 ρ1) (b : Nx K A σ G1 H1 ρ1 G2 H2 ρ2) : Nx K A σ G H ρ G2 H2 ρ2 :=
  ⟨a.ext.trans b.ext fun p ⟨i, z⟩ => .inl ⟨i, a.own i p z⟩, b.st, fun i p z => a.own i p (b.own i p z)⟩
theorem Nx.gs (a : Nx K A σ G H ρ G1 H1 ρ1) : L2.Same G G1 := a.ext.gs
theorem Own.has (s : St K A σ G H ρ) {i : Nat} {p : Addr} (h : Own σ ρ i p) : G p = none ∧ ∃ d, ρ[i]? = some (.ow d) ∧ Has K A G H p d := by
  obtain ⟨⟨d, h1⟩, h2⟩ := h
  obtain ⟨q, e, n, z⟩ := s.slot i _ h1
  rw [List.getD_eq_getElem?_getD, h2] at e
  cases e
  exact ⟨n, d, h1, z⟩
theorem OwnS.there (s : St K A σ G H ρ) {p : Addr} (h : OwnS σ ρ p) : H p ≠ none := by
  obtain ⟨i, h⟩ := h
  obtain ⟨_, d, _, z⟩ := h.has s
  obtain ⟨o, e⟩ := z.ex
  rw [e]; exact fun x => nomatch x
/-- the heap changes but not at our own objects -/
structure Nx0 (G H G' H' : Hp) : Prop where
  ext : Ext (fun _ => False) G H G' H'
  sub : Sub G' H'
theorem Nx0.refl (s : Sub G H) : Nx0 G H G H := ⟨Ext.refl _ _ _, s⟩
theorem Nx0.trans (a : Nx0 G H G1 H1) (b : Nx0 G1 H1 G2 H2) : Nx0 G H G2 H2 := ⟨a.ext.trans b.ext fun _ h => h.elim, b.sub⟩
theorem St.nx0 (s : St K A σ G H ρ) (n : Nx0 G H G' H') : Nx K A σ G H ρ G' H' ρ := by
  refine ⟨n.ext.weak fun _ h => h.elim, ⟨n.sub, s.len, fun i z hz => ?_, s.dist⟩, fun _ _ h => h⟩
  have q := s.slot i z hz
  cases z with
  | un => trivial
  | sh d => obtain ⟨v, e, r⟩ := q; exact ⟨v, e, r.mono n.ext.gs⟩
  | ow d =>
    obtain ⟨p, e, g, h⟩ := q
    refine ⟨p, e, ?_, h.mono n.ext.gs fun o ho => n.ext.hs p o ho id⟩
    cases q2 : G' p with
    | none => rfl
    | some o =>
      rcases n.ext.fr p (by rw [q2]; exact fun x => nomatch x) with z | z | z
      · exact absurd g z
      · obtain ⟨o, e⟩ := h.ex; rw [z] at e; cases e
      · exact z.elim
/-- the value of a result: new and nobody's, or a value that stays -/
def RepR (K : PySem.W.Frag) (A : CT) (O : Addr → Prop) (H G' H' : Hp) (v : V) (r : Rv) : Prop :=
  if r.2 = true then ∃ p, v = .ref p ∧ G' p = none ∧ Has K A G' H' p r.1 ∧ ¬ O p ∧ H p = none else Rep K A G' v r.1
theorem RepR.of {O : Addr → Prop} {v : V} {d : D} (h : Rep K A G' v d) : RepR K A O H G' H' v (d, false) := h
theorem RepR.new {O : Addr → Prop} {p : Addr} {d : D} (h1 : G' p = none) (h2 : Has K A G' H' p d) (h3 : ¬ O p) (h4 : H p = none) : RepR K A O H G' H' (.ref p) (d, true) := ⟨p, rfl, h1, h2, h3, h4⟩
/-- an own object is given up -/
theorem St.freeze {p : Addr} {d : D} (s : St K A σ G H ρ) (n : G p = none) (h : Has K A G H p d) (no : ¬ OwnS σ ρ p) : ∃ o, H p = some o ∧ St K A σ (upd G p o) H ρ ∧ Rep K A (upd G p o) (.ref p) d ∧ L2.Same G (upd G p o) := by
  obtain ⟨o, ho, r⟩ := h.frz n
  have e : L2.Same G (upd G p o) := SL.Same.new n
  refine ⟨o, ho, ⟨fun q u hq => ?_, s.len, fun i z hz => ?_, s.dist⟩, r, e⟩
  · by_cases z : q = p
    · subst z; rw [upd_same] at hq; cases hq; exact .inl ho
    · rw [upd_ne z] at hq; exact s.sub q u hq
  · have q := s.slot i z hz
    cases z with
    | un => trivial
    | sh d => obtain ⟨v, e1, r1⟩ := q; exact ⟨v, e1, r1.mono e⟩
    | ow d' =>
      obtain ⟨p', e1, g, h1⟩ := q
      have hne : p' ≠ p := fun z => by
        subst z
        refine no ⟨i, ⟨d', hz⟩, ?_⟩
        rw [List.getD_eq_getElem?_getD] at e1
        cases q : σ[i]? with
        | none => rw [q] at e1; cases e1
        | some x => rw [q] at e1; exact congrArg some e1
      exact ⟨p', e1, by rw [upd_ne hne]; exact g, h1.mono e fun _ z => z⟩
theorem Nx.frz {v : V} {r : Rv} (n : Nx K A σ G H ρ G' H' ρ') (h : RepR K A (OwnS σ ρ') H G' H' v r) : ∃ G2, Nx K A σ G H ρ G2 H' ρ' ∧ Rep K A G2 v r.1 ∧ L2.Same G' G2 := by
  unfold RepR at h
  split at h
  · obtain ⟨p, rfl, h1, h2, h3, h4⟩ := h
    obtain ⟨o, ho, s, rr, e⟩ := n.st.freeze h1 h2 h3
    refine ⟨_, ⟨⟨n.ext.gs.trans e, fun q hq => ?_, n.ext.hs, n.ext.there⟩, s, n.own⟩, rr, e⟩
    by_cases z : q = p
    · subst z; exact .inr (.inl h4)
    · rw [upd_ne z] at hq; exact n.ext.fr q hq
  · exact ⟨G', n, h, fun _ _ z => z⟩
end
/-! ### readings of mirrors -/
section
variable (K : PySem.W.Frag) (A : CT)
def liftE (m : Ev) : TE := fun σ H Q => ∃ G ρ r ρ', St K A σ G H ρ ∧ m ρ = .ok (r, ρ') ∧ ∀ v G' H', Nx K A σ G H ρ G' H' ρ' → RepR K A (OwnS σ ρ') H G' H' v r → Q v H'
def liftT (m : Ev) : TT := fun σ H Q => ∃ G ρ b ρ', St K A σ G H ρ ∧ val m ρ = .ok (.bl b, ρ') ∧ ∀ G' H', Nx K A σ G H ρ G' H' ρ' → Q b H'
def liftA (ms : List Ev) : TA := fun σ H Q => ∃ G ρ ds ρ', St K A σ G H ρ ∧ evs ms ρ = .ok (ds, ρ') ∧ ∀ vs G' H', Nx K A σ G H ρ G' H' ρ' → Reps K A G' vs ds → Q vs H'
end
variable {Q : VK}
theorem use_val {σ : L2.St} {ρ ρ' : Env} {m : Ev} {d : D} (s : St K A σ G H ρ) (e : val m ρ = .ok (d, ρ')) (k : ∀ v G' H', Nx K A σ G H ρ G' H' ρ' → Rep K A G' v d → Q v H') : liftE K A m σ H Q := by
  obtain ⟨⟨r, ρ1⟩, e1, e2⟩ := bind_ok e
  cases e2
  refine ⟨G, ρ, r, _, s, e1, fun v G' H' n h => ?_⟩
  obtain ⟨G2, n2, h2, _⟩ := n.frz h
  exact k v G2 H' n2 h2
abbrev PD (A : CT) (X : Cx) (e : Expr) (m : Ev) : Prop := PE X e (liftE X.K A m)
abbrev PDT (A : CT) (X : Cx) (e : Expr) (m : Ev) : Prop := PT X e (liftT X.K A m)
abbrev PDA (A : CT) (X : Cx) (es : List Expr) (ms : List Ev) : Prop := PA X es (liftA X.K A ms)
theorem PE.imp {X : Cx} {e : Expr} {t t' : TE} (h : PE X e t) (k : ∀ σ H Q, t' σ H Q → t σ H Q) : PE X e t' := ⟨fun pins s σ H Q I q => h.run pins s σ H Q I (k σ H Q q)⟩
theorem PT.imp {X : Cx} {e : Expr} {t t' : TT} (h : PT X e t) (k : ∀ σ H Q, t' σ H Q → t σ H Q) : PT X e t' := ⟨fun pins s σ H Q I q => h.run pins s σ H Q I (k σ H Q q)⟩
theorem PA.imp {X : Cx} {e : List Expr} {t t' : TA} (h : PA X e t) (k : ∀ σ H Q, t' σ H Q → t σ H Q) : PA X e t' := ⟨fun pos pins s σ H Q I q => h.run pos pins s σ H Q I (k σ H Q q)⟩
theorem PS.imp {X : Cx} {e : Stmt} {t t' : TS} (h : PS X e t) (k : ∀ D σ H, t' D σ H → t D σ H) : PS X e t' := ⟨fun pins s σ H D I q => h.run pins s σ H D I (k D σ H q)⟩
theorem PSs.imp {X : Cx} {e : List Stmt} {t t' : TS} (h : PSs X e t) (k : ∀ D σ H, t' D σ H → t D σ H) : PSs X e t' := ⟨fun pins s σ H D I q => h.run pins s σ H D I (k D σ H q)⟩
/-- operations on values -/
def RepN (K : PySem.W.Frag) (A : CT) (H G' H' : Hp) (v : V) (r : Rv) : Prop := RepR K A (fun _ => False) H G' H' v r
theorem RepN.r {σ : L2.St} {ρ : Env} {v : V} {r : Rv} (h : RepN K A H G' H' v r) (s : St K A σ G H ρ) : RepR K A (OwnS σ ρ) H G' H' v r := by
  unfold RepN RepR at *
  split at h
  · rename_i q
    obtain ⟨p, e, h1, h2, _, h4⟩ := h
    rw [if_pos q]
    exact ⟨p, e, h1, h2, fun z => OwnS.there s z h4, h4⟩
  · rename_i q
    rw [if_neg q]; exact h
end DY

set_option Elab.async false
set_option linter.all false
set_option maxRecDepth 100000
set_option maxHeartbeats 4000000
/-! ### rules for expressions -/
namespace DY
open PySem L2 PySem.Spec PyProof.Rows
variable {K : PySem.W.Frag} {A : CT} {G G' G1 G2 H H' H1 H2 : Hp} {σ : L2.St} {ρ ρ1 ρ2 ρ' : Env} {Q : VK}
theorem getD_some {i : Nat} {v : V} (h : σ.getD i none = some v) : σ[i]? = some (some v) := by
  rw [List.getD_eq_getElem?_getD] at h
  cases q : σ[i]? with
  | none => rw [q] at h; cases h
  | some x => rw [q] at h; exact congrArg some h
theorem getD_of {i : Nat} {v : Option V} (h : σ[i]? = some v) : σ.getD i none = v := by rw [List.getD_eq_getElem?_getD, h]; rfl
theorem own_set {i j : Nat} {p : Addr} {s : Slot} (ns : ∀ d, s ≠ .ow d) (h : Own σ (ρ.set i s) j p) : Own σ ρ j p ∧ j ≠ i := by
  obtain ⟨⟨d, h1⟩, h2⟩ := h
  by_cases e : i = j
  · subst e
    rw [List.getElem?_set_self'] at h1
    cases q : ρ[i]? with
    | none => rw [q] at h1; cases h1
    | some x => rw [q] at h1; exact absurd (Option.some.inj h1) (ns d)
  · rw [List.getElem?_set_ne e] at h1
    exact ⟨⟨⟨d, h1⟩, h2⟩, fun z => e z.symm⟩
/-- slot i gets something that is no own object -/
theorem St.put {i : Nat} {s : Slot} (h : St K A σ G H ρ) (ns : ∀ d, s ≠ .ow d) (k : SlotOk K A G H (σ.getD i none) s) : St K A σ G H (ρ.set i s) := by
  refine ⟨h.sub, by rw [List.length_set]; exact h.len, fun j z hz => ?_, fun a b p ha hb => h.dist a b p (own_set ns ha).1 (own_set ns hb).1⟩
  by_cases e : i = j
  · subst e
    rw [List.getElem?_set_self'] at hz
    cases q : ρ[i]? with
    | none => rw [q] at hz; cases hz
    | some x => rw [q] at hz; cases (Option.some.inj hz); exact k
  · rw [List.getElem?_set_ne e] at hz
    exact h.slot j z hz
theorem St.give {i : Nat} {d : D} (s : St K A σ G H ρ) (e : ρ[i]? = some (.ow d)) : ∃ p G2, σ[i]? = some (some (.ref p)) ∧ Nx K A σ G H ρ G2 H (ρ.set i (.sh d)) ∧ Rep K A G2 (.ref p) d := by
  obtain ⟨p, e1, n, h⟩ := s.slot i _ e
  have e2 := getD_some e1
  have s1 : St K A σ G H (ρ.set i .un) := s.put (fun _ z => nomatch z) trivial
  have no : ¬ OwnS σ (ρ.set i .un) p := fun ⟨j, z⟩ => by
    have := own_set (s := .un) (fun _ z => nomatch z) z
    exact this.2 (s.dist j i p this.1 ⟨⟨d, e⟩, e2⟩)
  obtain ⟨o, ho, s2, r, g⟩ := s1.freeze n h no
  have s3 := s2.put (i := i) (s := .sh d) (fun _ z => nomatch z) ⟨.ref p, e1, r⟩
  rw [List.set_set] at s3
  refine ⟨p, _, e2, ⟨⟨g, fun q hq => ?_, fun _ _ z _ => z, fun _ z => z⟩, s3, fun j q z => (own_set (s := .sh d) (fun _ z => nomatch z) z).1⟩, r⟩
  by_cases z : q = p
  · subst z; exact .inr (.inr ⟨i, ⟨d, e⟩, e2⟩)
  · rw [upd_ne z] at hq; exact .inl hq
section
variable {X : Cx}
theorem pd_var {i : Nat} {x : Str} {pos : Pos} (h : PE X (.Name x pos) (tVar i)) : PD A X (.Name x pos) (eVar i) := PE.imp h fun σ H Q q => by
  obtain ⟨G, ρ, r, ρ', s, e, k⟩ := q
  unfold eVar at e
  split at e
  · rename_i d hd
    cases e
    obtain ⟨v, e1, rv⟩ := s.slot i _ hd
    exact ⟨v, getD_some e1, k v G H (Nx.refl s) (RepR.of rv)⟩
  · rename_i d hd
    cases e
    obtain ⟨p, G2, e1, n, rv⟩ := s.give hd
    exact ⟨.ref p, e1, k _ G2 H n (RepR.of rv)⟩
  · cases e
theorem pd_c {e : Expr} {v : V} {d : D} (h : PE X e (tC v)) (r : ∀ G, Rep X.K A G v d) : PD A X e (eC d) := PE.imp h fun σ H Q q => by
  obtain ⟨G, ρ, r', ρ', s, e, k⟩ := q
  cases e
  exact k v G H (Nx.refl s) (RepR.of (r G))
theorem pd_int {i : Int} {j pos} : PD A X (.Constant (.int i) j pos) (eC (.int i)) := pd_c pe_int fun _ => .int i
theorem pd_bl {i : Bool} {j pos} : PD A X (.Constant (.bool i) j pos) (eC (.bl i)) := pd_c pe_bl fun _ => .bl i
theorem pd_non {j pos} : PD A X (.Constant .none j pos) (eC .non) := pd_c pe_non fun _ => .non
theorem rep_str {G : Hp} {x : Str} {l : List Nat} (h : x.cps.toList = l) : Rep K A G (.str x) (.str l) := by
  subst h
  have := Rep.str (K := K) (A := A) (G := G) x.cps.toList
  rw [S_cps] at this
  exact this
theorem pd_str {x : Str} {l : List Nat} {j pos} (h : x.cps.toList = l) : PD A X (.Constant (.str x) j pos) (eC (.str l)) := pd_c pe_str fun _ => rep_str h
/-! operations -/
variable (K A) in
def rD (f : D → D → R Rv) : R2 := fun x y H Q => ∃ G d1 d2 r, Sub G H ∧ Rep K A G x d1 ∧ Rep K A G y d2 ∧ f d1 d2 = .ok r ∧ ∀ v G' H', Nx0 G H G' H' → RepN K A H G' H' v r → Q v H'
variable (K A) in
def rDu (f : D → R Rv) : V → Hp → VK → Prop := fun x H Q => ∃ G d r, Sub G H ∧ Rep K A G x d ∧ f d = .ok r ∧ ∀ v G' H', Nx0 G H G' H' → RepN K A H G' H' v r → Q v H'
variable (K A) in
def rDn (f : List D → R Rv) : List V → Hp → VK → Prop := fun xs H Q => ∃ G ds r, Sub G H ∧ Reps K A G xs ds ∧ f ds = .ok r ∧ ∀ v G' H', Nx0 G H G' H' → RepN K A H G' H' v r → Q v H'
/-- where nothing new comes -/
theorem same_end {G H : Hp} {v : V} {d : D} (s : Sub G H) (r : Rep K A G v d) {Q : VK} (k : ∀ v G' H', Nx0 G H G' H' → RepN K A H G' H' v (d, false) → Q v H') : Q v H := k v G H (Nx0.refl s) (RepR.of r)
/-- from the state behind the arguments to the end -/
theorem end_of {G0 H0 : Hp} {ρ0 : Env} {r : Rv} (n : Nx K A σ G0 H0 ρ0 G H ρ) (k : ∀ v G' H', Nx K A σ G0 H0 ρ0 G' H' ρ → RepR K A (OwnS σ ρ) H0 G' H' v r → Q v H') : ∀ v G' H', Nx0 G H G' H' → RepN K A H G' H' v r → Q v H' := fun v G' H' n0 h => by
  have n1 := n.st.nx0 n0
  refine k v G' H' (n.trans n1) ?_
  have h' := h.r n.st
  unfold RepR at *
  split at h'
  · rename_i q
    rw [if_pos q]
    obtain ⟨p, e, h1, h2, h3, h4⟩ := h'
    refine ⟨p, e, h1, h2, h3, ?_⟩
    cases z : H0 p with
    | none => rfl
    | some o => exact absurd h4 (n.ext.there p (by rw [z]; exact fun x => nomatch x))
  · rename_i q
    rw [if_neg q]; exact h'
theorem bin_use {f : D → D → R Rv} {ma mb : Ev} (h : liftE K A (eBin f ma mb) σ H Q) : liftE K A ma σ H fun x H1 => liftE K A mb σ H1 fun y H2 => rD K A f x y H2 Q := by
  obtain ⟨G, ρ, r, ρ', s, e, k⟩ := h
  obtain ⟨⟨d1, ρ1⟩, e1, e⟩ := bind_ok e
  obtain ⟨⟨d2, ρ2⟩, e2, e⟩ := bind_ok e
  obtain ⟨r', e3, e⟩ := bind_ok e
  cases e
  refine use_val s e1 fun x G1 H1 n1 r1 => use_val n1.st e2 fun y G2 H2 n2 r2 => ⟨G2, d1, d2, r, n2.st.sub, r1.mono n2.gs, r2, e3, end_of (n1.trans n2) k⟩
theorem un_use {f : D → R Rv} {ma : Ev} (h : liftE K A (eUn f ma) σ H Q) : liftE K A ma σ H fun x H1 => rDu K A f x H1 Q := by
  obtain ⟨G, ρ, r, ρ', s, e, k⟩ := h
  obtain ⟨⟨d1, ρ1⟩, e1, e⟩ := bind_ok e
  obtain ⟨r', e3, e⟩ := bind_ok e
  cases e
  exact use_val s e1 fun x G1 H1 n1 r1 => ⟨G1, d1, r, n1.st.sub, r1, e3, end_of n1 k⟩
theorem n_use {f : List D → R Rv} {ms : List Ev} (h : liftE K A (eN f ms) σ H Q) : liftA K A ms σ H fun xs H1 => rDn K A f xs H1 Q := by
  obtain ⟨G, ρ, r, ρ', s, e, k⟩ := h
  obtain ⟨⟨ds, ρ1⟩, e1, e⟩ := bind_ok e
  obtain ⟨r', e3, e⟩ := bind_ok e
  cases e
  exact ⟨G, ρ, ds, _, s, e1, fun vs G1 H1 n1 r1 => ⟨G1, ds, r, n1.st.sub, r1, e3, end_of n1 k⟩⟩
variable {a b c : Expr} {ma mb mc : Ev} {pos : Pos}
theorem pd_bin {op : Operator} {f : D → D → R Rv} (hf : OpR X (binaryOp op) (rD X.K A f)) (ha : PD A X a ma) (hb : PD A X b mb) : PD A X (.BinOp a op b pos) (eBin f ma mb) := PE.imp (pe_op hf ha hb) fun _ _ _ => bin_use
theorem pd_un {op : UnaryOp} {f : D → R Rv} (hf : UnR X (unaryOp op) (rDu X.K A f)) (ha : PD A X a ma) : PD A X (.UnaryOp op a pos) (eUn f ma) := PE.imp (pe_un hf ha) fun _ _ _ => un_use
theorem pd_cmp {op : CmpOp} {f : D → D → R Rv} (hf : OpR X (compareOp op) (rD X.K A f)) (ha : PD A X a ma) (hb : PD A X b mb) (hm : behindInMarks op b = false) : PD A X (.Compare a [op] [b] pos) (eBin f ma mb) := PE.imp (pe_cmpR hf ha hb hm) fun _ _ _ => bin_use
theorem pd_ix {f : D → D → R Rv} (hf : IxR X (rD X.K A f)) (ha : PD A X a ma) (hb : PD A X b mb) (hs : PlainIx b) : PD A X (.Subscript a b pos) (eBin f ma mb) := PE.imp (pe_ix hf ha hb hs) fun _ _ _ => bin_use
/-- a test from a value -/
theorem test_use {m : Ev} {Q : Bool → Hp → Prop} (h : liftT K A m σ H Q) : liftE K A m σ H fun x H' => ∃ k, x = .bl k ∧ Q k H' := by
  obtain ⟨G, ρ, b, ρ', s, e, k⟩ := h
  refine use_val s e fun v G1 H1 n r => ?_
  cases r
  exact ⟨b, rfl, k G1 H1 n⟩
theorem pdt_cmp {op : CmpOp} {f : D → D → R Rv} (hf : OpR X (compareOp op) (rD X.K A f)) (ha : PD A X a ma) (hb : PD A X b mb) (hm : behindInMarks op b = false) : PDT A X (.Compare a [op] [b] pos) (eBin f ma mb) :=
  PT.imp (pt_cmpR hf ha hb hm) fun _ _ _ h => bin_use (test_use h)
theorem pdt_val (h : PD A X a ma) (he : ∀ whole, isTrue a X.env whole = (do let v ← whole; standAt a.pos; holding [v] (truthy v)) := by intro _; rfl) : PDT A X a ma := PT.imp (pt_val h he) fun _ _ _ h => test_use h
theorem isB_ok {x : D} {c : Bool} (h : isB x = .ok c) : x = .bl c := by
  cases x <;> first | cases h; rfl | cases h
theorem if_use {t : Ev} (h : liftE K A (eIf t ma mb) σ H Q) : liftT K A t σ H fun c H1 => if c = true then liftE K A ma σ H1 Q else liftE K A mb σ H1 Q := by
  obtain ⟨G, ρ, r, ρ', s, e, k⟩ := h
  obtain ⟨⟨x, ρ1⟩, e1, e⟩ := bind_ok e
  obtain ⟨c, e2, e⟩ := bind_ok e
  cases isB_ok e2
  refine ⟨G, ρ, c, ρ1, s, e1, fun G1 H1 n => ?_⟩
  have fin : ∀ {m : Ev}, m ρ1 = .ok (r, ρ') → liftE K A m σ H1 Q := fun {m} e => ⟨G1, ρ1, r, ρ', n.st, e, fun v G2 H2 n2 h => by
    refine k v G2 H2 (n.trans n2) ?_
    unfold RepR at *
    split at h
    · rename_i q
      rw [if_pos q]
      obtain ⟨p, e, h1, h2, h3, h4⟩ := h
      refine ⟨p, e, h1, h2, h3, ?_⟩
      cases z : H p with
      | none => rfl
      | some o => exact absurd h4 (n.ext.there p (by rw [z]; exact fun x => nomatch x))
    · rename_i q
      rw [if_neg q]; exact h⟩
  cases c with
  | true => exact iteT (fin e)
  | false => exact iteF (fin e)
theorem pd_if (hc : PDT A X c mc) (ha : PD A X a ma) (hb : PD A X b mb) : PD A X (.IfExp c a b pos) (eIf mc ma mb) := PE.imp (pe_ifExp hc ha hb) fun _ _ _ => if_use
/-- a result of a later part is one of the whole -/
theorem later {r : Rv} {v : V} (n : Nx K A σ G H ρ G1 H1 ρ1) (h : RepR K A (OwnS σ ρ') H1 G' H' v r) : RepR K A (OwnS σ ρ') H G' H' v r := by
  unfold RepR at *
  split at h
  · rename_i q
    rw [if_pos q]
    obtain ⟨p, e, h1, h2, h3, h4⟩ := h
    refine ⟨p, e, h1, h2, h3, ?_⟩
    cases z : H p with
    | none => rfl
    | some o => exact absurd h4 (n.ext.there p (by rw [z]; exact fun x => nomatch x))
  · rename_i q
    rw [if_neg q]; exact h
theorem and_use (h : liftE K A (eAnd ma mb) σ H Q) : liftE K A ma σ H fun x H1 => ∃ c, x = .bl c ∧ if c = true then liftE K A mb σ H1 Q else Q (.bl false) H1 := by
  obtain ⟨G, ρ, r, ρ', s, e, k⟩ := h
  obtain ⟨⟨x, ρ1⟩, e1, e⟩ := bind_ok e
  obtain ⟨c, e2, e⟩ := bind_ok e
  cases isB_ok e2
  refine use_val s e1 fun v G1 H1 n rv => ?_
  cases rv
  refine ⟨c, rfl, ?_⟩
  cases c with
  | true => exact iteT ⟨G1, ρ1, r, ρ', n.st, e, fun v G2 H2 n2 h => k v G2 H2 (n.trans n2) (later n h)⟩
  | false => cases e; exact iteF (k _ G1 H1 n (RepR.of (.bl false)))
theorem or_use (h : liftE K A (eOr ma mb) σ H Q) : liftE K A ma σ H fun x H1 => ∃ c, x = .bl c ∧ if c = true then Q (.bl true) H1 else liftE K A mb σ H1 Q := by
  obtain ⟨G, ρ, r, ρ', s, e, k⟩ := h
  obtain ⟨⟨x, ρ1⟩, e1, e⟩ := bind_ok e
  obtain ⟨c, e2, e⟩ := bind_ok e
  cases isB_ok e2
  refine use_val s e1 fun v G1 H1 n rv => ?_
  cases rv
  refine ⟨c, rfl, ?_⟩
  cases c with
  | true => cases e; exact iteT (k _ G1 H1 n (RepR.of (.bl true)))
  | false => exact iteF ⟨G1, ρ1, r, ρ', n.st, e, fun v G2 H2 n2 h => k v G2 H2 (n.trans n2) (later n h)⟩
theorem not_use (h : liftE K A (eNot ma) σ H Q) : liftE K A ma σ H fun x H1 => ∃ c, x = .bl c ∧ Q (.bl (!c)) H1 := by
  obtain ⟨G, ρ, r, ρ', s, e, k⟩ := h
  obtain ⟨⟨x, ρ1⟩, e1, e⟩ := bind_ok e
  obtain ⟨c, e2, e⟩ := bind_ok e
  cases isB_ok e2
  cases e
  refine use_val s e1 fun v G1 H1 n rv => ?_
  cases rv
  exact ⟨c, rfl, k _ G1 H1 n (RepR.of (.bl (!c)))⟩
variable {rest : List Expr}
theorem pd_and (ha : PD A X a ma) (hb : PD A X (.BoolOp .And (b :: rest) pos) mb) : PD A X (.BoolOp .And (a :: b :: rest) pos) (eAnd ma mb) := PE.imp (pe_and ha hb) fun _ _ _ => and_use
theorem pd_or (ha : PD A X a ma) (hb : PD A X (.BoolOp .Or (b :: rest) pos) mb) : PD A X (.BoolOp .Or (a :: b :: rest) pos) (eOr ma mb) := PE.imp (pe_or ha hb) fun _ _ _ => or_use
theorem pd_one {op} (h : PD A X a ma) : PD A X (.BoolOp op [a] pos) ma := pe_one h
theorem pd_not (ha : PD A X a ma) : PD A X (.UnaryOp .Not a pos) (eNot ma) := PE.imp (pe_not ha) fun _ _ _ => not_use
/-! tests of and, or, not -/
theorem val_ok {m : Ev} {d : D} (e : val m ρ = .ok (d, ρ')) : ∃ f, m ρ = .ok ((d, f), ρ') := by
  obtain ⟨⟨r, ρ1⟩, e1, e2⟩ := bind_ok e
  cases e2
  exact ⟨r.2, e1⟩
theorem val_of {m : Ev} {r : Rv} (e : m ρ = .ok (r, ρ')) : val m ρ = .ok (r.1, ρ') := by unfold val; rw [e]; rfl
theorem tand_use {Q : Bool → Hp → Prop} (h : liftT K A (eAnd ma mb) σ H Q) : liftT K A ma σ H fun c H1 => if c = true then liftT K A mb σ H1 Q else Q false H1 := by
  obtain ⟨G, ρ, b, ρ', s, e, k⟩ := h
  obtain ⟨f, e⟩ := val_ok e
  obtain ⟨⟨x, ρ1⟩, e1, e⟩ := bind_ok e
  obtain ⟨c, e2, e⟩ := bind_ok e
  cases isB_ok e2
  refine ⟨G, ρ, c, ρ1, s, e1, fun G1 H1 n => ?_⟩
  cases c with
  | true => exact iteT ⟨G1, ρ1, b, ρ', n.st, val_of e, fun G2 H2 n2 => k G2 H2 (n.trans n2)⟩
  | false => cases e; exact iteF (k G1 H1 n)
theorem tor_use {Q : Bool → Hp → Prop} (h : liftT K A (eOr ma mb) σ H Q) : liftT K A ma σ H fun c H1 => if c = true then Q true H1 else liftT K A mb σ H1 Q := by
  obtain ⟨G, ρ, b, ρ', s, e, k⟩ := h
  obtain ⟨f, e⟩ := val_ok e
  obtain ⟨⟨x, ρ1⟩, e1, e⟩ := bind_ok e
  obtain ⟨c, e2, e⟩ := bind_ok e
  cases isB_ok e2
  refine ⟨G, ρ, c, ρ1, s, e1, fun G1 H1 n => ?_⟩
  cases c with
  | true => cases e; exact iteT (k G1 H1 n)
  | false => exact iteF ⟨G1, ρ1, b, ρ', n.st, val_of e, fun G2 H2 n2 => k G2 H2 (n.trans n2)⟩
theorem tnot_use {Q : Bool → Hp → Prop} (h : liftT K A (eNot ma) σ H Q) : liftT K A ma σ H fun c H1 => Q (!c) H1 := by
  obtain ⟨G, ρ, b, ρ', s, e, k⟩ := h
  obtain ⟨f, e⟩ := val_ok e
  obtain ⟨⟨x, ρ1⟩, e1, e⟩ := bind_ok e
  obtain ⟨c, e2, e⟩ := bind_ok e
  cases isB_ok e2
  cases e
  exact ⟨G, ρ, c, _, s, e1, fun G1 H1 n => k G1 H1 n⟩
theorem PW.imp {X : Cx} {e : Expr} {t t' : TT} (h : PW X e t) (k : ∀ σ H Q, t' σ H Q → t σ H Q) : PW X e t' := ⟨fun wh pins s σ H Q I q => h.run wh pins s σ H Q I (k σ H Q q)⟩
abbrev PDW (A : CT) (X : Cx) (e : Expr) (m : Ev) : Prop := PW X e (liftT X.K A m)
theorem pdw_and1 (ha : PDT A X a ma) : PDW A X (.BoolOp .And [a] pos) ma := pw_and1 ha
theorem pdw_or1 (ha : PDT A X a ma) : PDW A X (.BoolOp .Or [a] pos) ma := pw_or1 ha
theorem pdw_and (ha : PDT A X a ma) (hb : PDW A X (.BoolOp .And (b :: rest) pos) mb) : PDW A X (.BoolOp .And (a :: b :: rest) pos) (eAnd ma mb) := PW.imp (pw_and ha hb) fun _ _ _ => tand_use
theorem pdw_or (ha : PDT A X a ma) (hb : PDW A X (.BoolOp .Or (b :: rest) pos) mb) : PDW A X (.BoolOp .Or (a :: b :: rest) pos) (eOr ma mb) := PW.imp (pw_or ha hb) fun _ _ _ => tor_use
theorem pdt_w (h : PDW A X a ma) : PDT A X a ma := h.pt
theorem pdt_not (ha : PDT A X a ma) : PDT A X (.UnaryOp .Not a pos) (eNot ma) := PT.imp (pt_not ha) fun _ _ _ => tnot_use
/-! a chain -/
theorem chain_use {f g : D → D → R Rv} (h : liftE K A (eChain f g ma mb mc) σ H Q) (hf : ∀ x y r, f x y = .ok r → r.2 = false) : liftE K A ma σ H fun x H1 => liftE K A mb σ H1 fun y H2 => rD K A f x y H2 fun z H3 => ∃ k, z = .bl k ∧ (if k = true then liftE K A mc σ H3 fun w' H4 => rD K A g y w' H4 Q else Q (.bl false) H3) := by
  obtain ⟨G, ρ, r, ρ', s, e, k⟩ := h
  obtain ⟨⟨d1, ρ1⟩, e1, e⟩ := bind_ok e
  obtain ⟨⟨d2, ρ2⟩, e2, e⟩ := bind_ok e
  obtain ⟨⟨d3, f3⟩, e3, e⟩ := bind_ok e
  obtain ⟨c, e4, e⟩ := bind_ok e
  obtain rfl := isB_ok e4
  obtain rfl : f3 = false := hf _ _ _ e3
  refine use_val s e1 fun x G1 H1 n1 r1 => use_val n1.st e2 fun y G2 H2 n2 r2 => ⟨G2, d1, d2, _, n2.st.sub, r1.mono n2.gs, r2, e3, fun v G3 H3 n3 hv => ?_⟩
  have n3' := n2.st.nx0 n3
  cases (show Rep K A G3 v (.bl c) from hv)
  refine ⟨c, rfl, ?_⟩
  cases c with
  | true =>
    refine iteT ?_
    replace e : (val mc ρ2 >>= fun x => g d2 x.1 >>= fun r => pure (r, x.2)) = R.ok (r, ρ') := e
    obtain ⟨⟨d4, ρ4⟩, e5, e⟩ := bind_ok e
    obtain ⟨r', e6, e⟩ := bind_ok e
    cases e
    exact use_val n3'.st e5 fun w G4 H4 n4 r4 => ⟨G4, d2, d4, r, n4.st.sub, (r2.mono n3'.gs).mono n4.gs, r4, e6, end_of (((n1.trans n2).trans n3').trans n4) k⟩
  | false => cases e; exact iteF (k _ G3 H3 ((n1.trans n2).trans n3') (RepR.of (.bl false)))
theorem pd_chain {op op' : CmpOp} {f g : D → D → R Rv} (hf : OpR X (compareOp op) (rD X.K A f)) (hg : OpR X (compareOp op') (rD X.K A g)) (ha : PD A X a ma) (hb : PD A X b mb) (hc : PD A X c mc) (nf : ∀ x y r, f x y = .ok r → r.2 = false)
    (hm : lastMarks [op, op'] [b, c] = false := by with_unfolding_all rfl) : PD A X (.Compare a [op, op'] [b, c] pos) (eChain f g ma mb mc) := PE.imp (pe_chain hf hg ha hb hc hm) fun _ _ _ h => chain_use h nf
theorem pdt_chain {op op' : CmpOp} {f g : D → D → R Rv} (hf : OpR X (compareOp op) (rD X.K A f)) (hg : OpR X (compareOp op') (rD X.K A g)) (ha : PD A X a ma) (hb : PD A X b mb) (hc : PD A X c mc) (nf : ∀ x y r, f x y = .ok r → r.2 = false)
    (hm : lastMarks [op, op'] [b, c] = false := by with_unfolding_all rfl) : PDT A X (.Compare a [op, op'] [b, c] pos) (eChain f g ma mb mc) := PT.imp (pt_chain hf hg ha hb hc hm) fun _ _ _ h => chain_use (test_use h) nf
/-! arguments -/
theorem pda_nil : PDA A X [] [] := PA.imp pa_nil fun σ H Q h => by
  obtain ⟨G, ρ, ds, ρ', s, e, k⟩ := h
  cases e
  exact k [] G H (Nx.refl s) .nil
theorem cons_use {m : Ev} {ms : List Ev} {Q : List V → Hp → Prop} (h : liftA K A (m :: ms) σ H Q) : tCons (liftE K A m) (liftA K A ms) σ H Q := by
  obtain ⟨G, ρ, ds, ρ', s, e, k⟩ := h
  obtain ⟨⟨d, ρ1⟩, e1, e⟩ := bind_ok e
  obtain ⟨⟨ds', ρ2⟩, e2, e⟩ := bind_ok e
  cases e
  exact use_val s e1 fun v G1 H1 n r => ⟨G1, ρ1, ds', _, n.st, e2, fun vs G2 H2 n2 rs => k _ G2 H2 (n.trans n2) (.cons (r.mono n2.gs) rs)⟩
theorem pda_cons {es : List Expr} {ms : List Ev} (ha : PD A X a ma) (hr : PDA A X es ms) (hs : starEach (a :: es) X.env = (false, eval a X.env) :: starEach es X.env := by rfl) : PDA A X (a :: es) (ma :: ms) := PA.imp (pa_cons ha hr hs) fun _ _ _ => cons_use
/-! displays -/
def mkTup (ds : List D) : R Rv := if ds.length ≤ 1000 then .ok (.tup ds, false) else .no
def mkKey (ds : List D) : R Rv := if ds.length ≤ 1000 then .ok (.kt ds, false) else .no
def mkLst (ds : List D) : R Rv := if ds.length ≤ 1000 then .ok (.lst ds, true) else .no
theorem upd_nx0 {p : Addr} {o : HO} (s : Sub G H) (n : H p = none) : Nx0 G H G (upd H p o) ∧ G p = none := by
  have gn : G p = none := by
    cases q : G p with
    | none => rfl
    | some u => obtain ⟨x, e⟩ := s.ex q; rw [n] at e; cases e
  refine ⟨⟨⟨fun _ _ h => h, fun _ h => .inl h, fun q u h _ => by rw [upd_ne (ne_of_none h n)]; exact h, fun q h => ?_⟩, fun q u h => ?_⟩, gn⟩
  · by_cases z : q = p
    · subst z; rw [upd_same]; exact fun x => nomatch x
    · rw [upd_ne z]; exact h
  · have : q ≠ p := fun z => by subst z; rw [gn] at h; cases h
    rw [upd_ne this]
    exact s q u h
theorem nx0_new {p : Addr} {o : HO} (s : Sub G H) (n : H p = none) : Nx0 G H (upd G p o) (upd H p o) := by
  obtain ⟨x, gn⟩ := upd_nx0 (o := o) s n
  refine ⟨⟨SL.Same.new gn, fun q hq => ?_, x.ext.hs, x.ext.there⟩, fun q u h => ?_⟩
  · by_cases z : q = p
    · subst z; exact .inr (.inl n)
    · rw [upd_ne z] at hq; exact .inl hq
  · by_cases z : q = p
    · subst z; rw [upd_same] at h; cases h; exact .inl upd_same
    · rw [upd_ne z] at h; exact x.sub q u h
/-- a new tuple; one that is to be a key -/
theorem new_tup {p : Addr} {o : Obj} {vs : List V} {ds : List D} (s : Sub G H) (n : H p = none) (ho : o.dict = none) (r : Reps K A G vs ds) : Nx0 G H (upd G p (.frz o (.tup vs))) (upd H p (.frz o (.tup vs))) ∧ Rep K A (upd G p (.frz o (.tup vs))) (.ref p) (.tup ds) :=
  ⟨nx0_new s n, .tup ho upd_same (r.mono (SL.Same.new (upd_nx0 (o := .tup vs) s n).2))⟩
theorem new_key {p : Addr} {vs : List V} {ds : List D} (s : Sub G H) (n : H p = none) (r : Reps K A G vs ds) : Nx0 G H (upd G p (.tup vs)) (upd H p (.tup vs)) ∧ Rep K A (upd G p (.tup vs)) (.ref p) (.kt ds) :=
  ⟨nx0_new s n, .kt upd_same (r.mono (SL.Same.new (upd_nx0 (o := .tup vs) s n).2))⟩
theorem new_lst {p : Addr} {vs : List V} {ds : List D} (s : Sub G H) (n : H p = none) (r : Reps K A G vs ds) : Nx0 G H G (upd H p (.lst vs)) ∧ RepN K A H G (upd H p (.lst vs)) (.ref p) (.lst ds, true) :=
  ⟨(upd_nx0 s n).1, RepR.new (upd_nx0 (o := .lst vs) s n).2 ⟨vs, upd_same, r⟩ id n⟩
theorem tup_r {vs : List V} (h : rDn K A mkTup vs H Q) : vs.length ≤ sizeLine ∧ ∀ p o, o.dict = none → H p = none → Q (.ref p) (upd H p (.frz o (.tup vs))) := by
  obtain ⟨G, ds, r, s, rs, e, k⟩ := h
  unfold mkTup at e
  split at e
  · cases e
    rename_i q
    refine ⟨SL.szL (by rw [rs.len]; exact q), fun p o ho n => ?_⟩
    obtain ⟨n0, rr⟩ := new_tup (K := K) (A := A) s n ho rs
    exact k _ _ _ n0 (RepR.of rr)
  · cases e
theorem key_r {vs : List V} (h : rDn K A mkKey vs H Q) : vs.length ≤ sizeLine ∧ ∀ p, H p = none → Q (.ref p) (upd H p (.tup vs)) := by
  obtain ⟨G, ds, r, s, rs, e, k⟩ := h
  unfold mkKey at e
  split at e
  · cases e
    rename_i q
    refine ⟨SL.szL (by rw [rs.len]; exact q), fun p n => ?_⟩
    obtain ⟨n0, rr⟩ := new_key (K := K) (A := A) s n rs
    exact k _ _ _ n0 (RepR.of rr)
  · cases e
def tTupF (t : TA) : TE := fun σ H Q => t σ H fun xs H1 => xs.length ≤ sizeLine ∧ ∀ p o, o.dict = none → H1 p = none → Q (.ref p) (upd H1 p (.frz o (.tup xs)))
theorem pe_tupF {X : Cx} {es : List Expr} {t : TA} {pos : Pos} {x1} (h : PA X es t) : PE X (.Tuple es x1 pos) (tTupF t) := by
  refine ⟨fun pins s σ H Q I hq => ?_⟩
  refine wpAny_Tuple_spliced (thn (h.run pos pins s σ H _ I hq) fun us s1 ⟨xs, H1, I1, r, z, q⟩ => ⟨by rw [← r.length]; exact z, ?_⟩)
  have hf : H1 s1.heap.objs.size = none := I1.hok.fresh (Nat.le_refl _)
  refine ⟨.ref s1.heap.objs.size, upd H1 s1.heap.objs.size (.frz { cls := .type "tuple", data := .seq us.toArray } (.tup xs)), I1.laid (t' := s1.toks) (fun b u e => Heap.get?_push_of_some _ e) (Nat.le_refl _) ?_, rfl, q _ _ rfl hf⟩
  exact ⟨Heap.get?_push_size _ rfl, z, us, r, ⟨_, Heap.get?_push_size _ rfl, rfl, _, rfl⟩⟩
theorem lst_r {vs : List V} (h : rDn K A mkLst vs H Q) : vs.length ≤ sizeLine ∧ ∀ p, H p = none → Q (.ref p) (upd H p (.lst vs)) := by
  obtain ⟨G, ds, r, s, rs, e, k⟩ := h
  unfold mkLst at e
  split at e
  · cases e
    rename_i q
    refine ⟨SL.szL (by rw [rs.len]; exact q), fun p n => ?_⟩
    obtain ⟨n0, rr⟩ := new_lst (K := K) (A := A) s n rs
    exact k _ _ _ n0 rr
  · cases e
theorem TA_mono {ms : List Ev} {Q Q' : List V → Hp → Prop} (h : liftA K A ms σ H Q) (k : ∀ vs H', Q vs H' → Q' vs H') : liftA K A ms σ H Q' := by
  obtain ⟨G, ρ, ds, ρ', s, e, z⟩ := h
  exact ⟨G, ρ, ds, ρ', s, e, fun vs G' H' n r => k _ _ (z vs G' H' n r)⟩
theorem pd_tup {es : List Expr} {ms : List Ev} {x1} (h : PDA A X es ms) : PD A X (.Tuple es x1 pos) (eN mkTup ms) := PE.imp (pe_tupF h) fun _ _ _ q => TA_mono (n_use q) fun _ _ => tup_r
theorem pd_key {es : List Expr} {ms : List Ev} {x1} (h : PDA A X es ms) : PD A X (.Tuple es x1 pos) (eN mkKey ms) := PE.imp (pe_tup h) fun _ _ _ q => TA_mono (n_use q) fun _ _ => key_r
theorem pd_lst {es : List Expr} {ms : List Ev} (h : PDA A X es ms) : PD A X (.List es pos) (eN mkLst ms) := PE.imp (pe_lst h) fun _ _ _ q => TA_mono (n_use q) fun _ _ => lst_r
/-! calls of built-ins -/
variable {x : Str} {p : Pos} {es : List Expr} {ms : List Ev} {id T : String}
theorem pd_callB {f : List D → R Rv} (hc : CallR X (.builtin id) (rDn X.K A f)) (hg : Gl X x) (hm : X.mg x = none) (hv : bootBuiltins x = some (.builtin id)) (ha : PDA A X (a :: es) ms) (hn : x ≠ "__name__" := by decide) (hdb : (x == ("__debug__" : Str)) = false := by decide)
    (he : starEach (a :: es) X.env = (false, eval a X.env) :: starEach es X.env := by rfl) (hpl : (backTo pos (starEach es X.env)).any (·.1) = false := by rfl) : PD A X (.Call (.Name x p) (a :: es) [] pos) (eN f ms) := PE.imp (pe_callB hc hg hm hv ha hn hdb he hpl) fun _ _ _ => n_use
theorem pd_callTy {f : List D → R Rv} (hc : CallR X (.type T) (rDn X.K A f)) (hg : Gl X x) (hm : X.mg x = none) (hv : bootBuiltins x = some (.type T)) (ha : PDA A X (a :: es) ms) (hn : x ≠ "__name__" := by decide) (hdb : (x == ("__debug__" : Str)) = false := by decide)
    (he : starEach (a :: es) X.env = (false, eval a X.env) :: starEach es X.env := by rfl) (hpl : (backTo pos (starEach es X.env)).any (·.1) = false := by rfl) : PD A X (.Call (.Name x p) (a :: es) [] pos) (eN f ms) := PE.imp (pe_callTy hc hg hm hv ha hn hdb he hpl) fun _ _ _ => n_use
end
end DY

set_option linter.all false
/-! ### the operations on data -/
namespace DY
/-- no own operator -/
def no2 : D → D → R Rv := fun _ _ => .no
def no1 : D → R Rv := fun _ => .no
def int_ (i : Int) : R Rv := .ok (.int i, false)
def bl_ (b : Bool) : R Rv := .ok (.bl b, false)
def str_ (l : List Nat) : R Rv := .ok (.str l, false)
def mulOk (i j : Int) : Bool := decide (i.natAbs.log2 + j.natAbs.log2 < 1000000)
def divOk (j : Int) : Bool := decide (j ≠ 0) && decide (j.natAbs.log2 < 9000)
def addD (own : D → D → R Rv) : D → D → R Rv
  | .int i, .int j => int_ (i + j)
  | .str a, .str b => if a.length + b.length ≤ 100000 then str_ (a ++ b) else .no
  | .lst a, .lst b => if a.length + b.length ≤ 1000 then .ok (.lst (a ++ b), true) else .no
  | .tup a, .tup b => if a.length + b.length ≤ 1000 then .ok (.tup (a ++ b), false) else .no
  | x, y => own x y
def subD (own : D → D → R Rv) : D → D → R Rv
  | .int i, .int j => int_ (i - j)
  | x, y => own x y
def mulD (own : D → D → R Rv) : D → D → R Rv
  | .int i, .int j => if mulOk i j then int_ (i * j) else .no
  | .lst a, .int k => if 0 ≤ k ∧ k ≤ 1000 ∧ a.length * k.toNat ≤ 1000 then .ok (.lst (List.replicate k.toNat a).flatten, true) else .no
  | x, y => own x y
def fdivD : D → D → R Rv
  | .int i, .int j => if divOk j then int_ (i.fdiv j) else .no
  | _, _ => .no
def modD : D → D → R Rv
  | .int i, .int j => if j = 0 then .no else int_ (i.fmod j)
  | _, _ => .no
def powD : D → D → R Rv
  | .int i, .int j => if 0 ≤ j ∧ j ≤ 1000 ∧ i.natAbs < 18446744073709551616 then int_ (i ^ j.toNat) else .no
  | _, _ => .no
def negD (own : D → R Rv) : D → R Rv
  | .int i => int_ (-i)
  | x => own x
/-! order -/
def ltN : List Nat → List Nat → Bool
  | [], [] => false
  | [], _ :: _ => true
  | _ :: _, [] => false
  | a :: r, b :: t => decide (a < b) || (decide (a = b) && ltN r t)
def ltD : D → D → R Rv
  | .int i, .int j => bl_ (decide (i < j))
  | .str a, .str b => bl_ (ltN a b)
  | _, _ => .no
def leD : D → D → R Rv
  | .int i, .int j => bl_ (decide (i ≤ j))
  | .str a, .str b => bl_ (!ltN b a)
  | _, _ => .no
def gtD : D → D → R Rv
  | .int i, .int j => bl_ (decide (j < i))
  | .str a, .str b => bl_ (ltN b a)
  | _, _ => .no
def geD : D → D → R Rv
  | .int i, .int j => bl_ (decide (j ≤ i))
  | .str a, .str b => bl_ (!ltN a b)
  | _, _ => .no
/-! equality of plain data -/
def sok (l : List Nat) : Bool := l.all fun c => decide (c < 1114112)
mutual
def dok : Nat → D → Bool
  | _, .non => true
  | _, .bl _ => true
  | _, .int _ => true
  | _, .str l => sok l
  | n + 1, .tup xs => doks n xs
  | n + 1, .kt xs => doks n xs
  | n + 1, .lst xs => doks n xs
  | n + 1, .fls xs => doks n xs
  | _, _ => false
def doks : Nat → List D → Bool
  | _, [] => true
  | n, x :: xs => dok n x && doks n xs
end
mutual
def eqv : D → D → Bool
  | .non, .non => true
  | .bl a, .bl b => a == b
  | .bl a, .int j => (if a then 1 else 0) == j
  | .int i, .bl b => i == (if b then 1 else 0)
  | .int i, .int j => i == j
  | .str a, .str b => a == b
  | .tup a, .tup b => eqvs a b
  | .tup a, .kt b => eqvs a b
  | .kt a, .tup b => eqvs a b
  | .kt a, .kt b => eqvs a b
  | .lst a, .lst b => eqvs a b
  | .lst a, .fls b => eqvs a b
  | .fls a, .lst b => eqvs a b
  | .fls a, .fls b => eqvs a b
  | _, _ => false
def eqvs : List D → List D → Bool
  | [], [] => true
  | x :: xs, y :: ys => eqv x y && eqvs xs ys
  | _, _ => false
end
def dep : Nat := 40
def eqG (own : D → D → R Rv) (x y : D) : R Rv := if dok dep x && dok dep y then bl_ (eqv x y) else own x y
def eqD (own : D → D → R Rv) : D → D → R Rv
  | .int i, .int j => bl_ (decide (i = j))
  | .str a, .str b => bl_ (decide (a = b))
  | .bl a, .bl b => bl_ (decide (a = b))
  | x, y => eqG own x y
def neG (own : D → D → R Rv) (x y : D) : R Rv := if dok dep x && dok dep y then bl_ (!eqv x y) else do
  let r ← own x y
  let b ← isB r.1
  bl_ (!b)
def neD (own : D → D → R Rv) : D → D → R Rv
  | .int i, .int j => bl_ (!decide (i = j))
  | .str a, .str b => bl_ (!decide (a = b))
  | .bl a, .bl b => bl_ (!decide (a = b))
  | x, y => neG own x y
def isN : D → D → R Rv
  | .non, .non => bl_ true
  | _, .non => bl_ false
  | _, _ => .no
def notN : D → D → R Rv
  | .non, .non => bl_ false
  | _, .non => bl_ true
  | _, _ => .no
/-! in -/
def flat : D → Bool
  | .non => true
  | .bl _ => true
  | .int _ => true
  | .str _ => true
  | _ => false
def inB : D → D → R Bool
  | .str [c], .str s => .ok (decide (c ∈ s))
  | .int i, .dic kvs => .ok (dget kvs (.inl i)).isSome
  | .str s, .dic kvs => .ok (dget kvs (.inr s)).isSome
  | .kt ks, .dct kvs => do
    let k ← keysOf ks
    pure (dget kvs k).isSome
  | x, .tup ds => if flat x && ds.all flat then .ok (ds.any fun z => eqv z x) else .no
  | x, .lst ds => if dok dep x && doks dep ds then .ok (ds.any fun z => eqv z x) else .no
  | x, .fls ds => if dok dep x && doks dep ds then .ok (ds.any fun z => eqv z x) else .no
  | _, _ => .no
def inD (x y : D) : R Rv := do let b ← inB x y; bl_ b
def ninD (x y : D) : R Rv := do let b ← inB x y; bl_ (!b)
/-! x[i] -/
def ixN (n : Nat) (i : Int) : Option Nat := if 0 ≤ i then (if i < n then some i.toNat else none) else if -(n : Int) ≤ i then some (i + n).toNat else none
def atI {α : Type} (xs : List α) (i : Int) : Option α := (ixN xs.length i).bind fun j => xs[j]?
def opt : Option D → R Rv
  | some d => .ok (d, false)
  | none => .no
def ixD : D → D → R Rv
  | .lst xs, .int i => opt (atI xs i)
  | .fls xs, .int i => opt (atI xs i)
  | .tup xs, .int i => opt (atI xs i)
  | .str s, .int i => if s.length ≤ 100000 then opt ((atI s i).map fun c => .str [c]) else .no
  | .dic kvs, .int i => opt (dget kvs (.inl i))
  | .dic kvs, .str s => opt (dget kvs (.inr s))
  | .dct kvs, .kt ks => do
    let k ← keysOf ks
    opt (dget kvs k)
  | _, _ => .no
/-! slices -/
def sIx (n d : Nat) : Option Int → Nat
  | none => d
  | some v => if v < 0 then (v + n).toNat else min v.toNat n
def cut {α : Type} (xs : List α) (lo hi : Option Int) : List α := (xs.drop (sIx xs.length 0 lo)).take (sIx xs.length xs.length hi - sIx xs.length 0 lo)
def sliceD (lo hi : Option Int) : D → R Rv
  | .lst xs => .ok (.lst (cut xs lo hi), true)
  | .fls xs => .ok (.lst (cut xs lo hi), true)
  | .tup xs => .ok (.tup (cut xs lo hi), false)
  | .str s => if s.length ≤ 100000 then str_ (cut s lo hi) else .no
  | _ => .no
def part : Option Ev → Env → R (Option Int × Env)
  | none, ρ => .ok (none, ρ)
  | some e, ρ => do
    let (x, ρ1) ← val e ρ
    match x with
    | .int i => .ok (some i, ρ1)
    | _ => .no
def eSlice (a : Ev) (lo hi : Option Ev) : Ev := fun ρ => do
  let (x, ρ1) ← val a ρ
  let (l, ρ2) ← part lo ρ1
  let (h, ρ3) ← part hi ρ2
  let r ← sliceD l h x
  pure (r, ρ3)
/-! built-ins -/
def lenB (own : D → R Rv) : D → R Rv
  | .str s => if s.length ≤ 100000 then int_ s.length else .no
  | .lst xs => int_ xs.length
  | .fls xs => int_ xs.length
  | .tup xs => int_ xs.length
  | .dic xs => int_ xs.length
  | x => own x
def lenD (own : D → R Rv) : List D → R Rv
  | [x] => lenB own x
  | _ => .no
def isB1 : BT → D → Option Bool
  | .int, .int _ => some true
  | .int, .bl _ => some true
  | .bool, .bl _ => some true
  | .str, .str _ => some true
  | .tuple, .tup _ => some true
  | .list, .lst _ => some true
  | .dict, .dic _ => some true
  | _, .ty _ => none
  | _, .cls _ => none
  | _, .fls _ => none
  | _, .dct _ => none
  | _, .kt _ => none
  | .set, _ => none
  | _, _ => some false
def isiD : List D → R Rv
  | [x, .ty t] => match isB1 t x with
    | some b => bl_ b
    | none => .no
  | [.ins c _, .cls c'] => bl_ (decide (c = c'))
  | [.fls _, .cls _] => .no
  | [.dct _, .cls _] => .no
  | [.kt _, .cls _] => .no
  | [.ty _, .cls _] => .no
  | [.cls _, .cls _] => .no
  | [_, .cls _] => bl_ false
  | _ => .no
def absD : List D → R Rv
  | [.int i] => int_ (if i < 0 then -i else i)
  | _ => .no
def maxD : List D → R Rv
  | [.int i, .int j] => int_ (if j > i then j else i)
  | _ => .no
def minD : List D → R Rv
  | [.int i, .int j] => int_ (if j < i then j else i)
  | _ => .no
def intD : List D → R Rv
  | [.int i] => int_ i
  | [.bl k] => int_ (if k then 1 else 0)
  | _ => .no
def boolsOf : List D → R (List Bool)
  | [] => .ok []
  | .bl b :: ds => do let bs ← boolsOf ds; pure (b :: bs)
  | _ => .no
def allD : List D → R Rv
  | [.lst ds] => do let bs ← boolsOf ds; bl_ (bs.all id)
  | _ => .no
def anyD : List D → R Rv
  | [.lst ds] => do let bs ← boolsOf ds; bl_ (bs.any id)
  | _ => .no
def intsOf : List D → R (List Int)
  | [] => .ok []
  | .int b :: ds => do let bs ← intsOf ds; pure (b :: bs)
  | _ => .no
def sumD : List D → R Rv
  | [.lst ds] => do let bs ← intsOf ds; int_ bs.sum
  | _ => .no
def strsOf : List D → R (List (List Nat))
  | [] => .ok []
  | .str b :: ds => do let bs ← strsOf ds; pure (b :: bs)
  | _ => .no
def insS (x : List Nat) : List (List Nat) → List (List Nat)
  | [] => [x]
  | y :: ys => if ltN y x then y :: insS x ys else x :: y :: ys
def sortS : List (List Nat) → List (List Nat)
  | [] => []
  | x :: xs => insS x (sortS xs)
def sortedD : List D → R Rv
  | [.lst ds] => do
    let ss ← strsOf ds
    if ss.length < 64 then .ok (.lst ((sortS ss).map D.str), true) else .no
  | _ => .no
def tupleD : List D → R Rv
  | [.lst ds] => .ok (.tup ds, false)
  | [.tup ds] => .ok (.tup ds, false)
  | _ => .no
def listD : List D → R Rv
  | [.lst ds] => .ok (.lst ds, true)
  | [.tup ds] => .ok (.lst ds, true)
  | [.dic kvs] => .ok (.lst (kvs.map fun kv => kyD kv.1), true)
  | _ => .no
def pairs : List D → R (List (Ky × D))
  | [] => .ok []
  | .tup [k, v] :: ds => do
    let q ← keyOf k
    let r ← pairs ds
    pure ((q, v) :: r)
  | _ => .no
def merge (kvs more : List (Ky × D)) : List (Ky × D) := more.foldl (fun acc kv => dput acc kv.1 kv.2) kvs
def dictD : List D → R Rv
  | [.dic kvs] => .ok (.dic kvs, true)
  | [.tup ds] => do
    let kvs ← pairs ds
    if kvs.length ≤ 1000 then .ok (.dic (merge [] kvs), true) else .no
  | [.lst ds] => do
    let kvs ← pairs ds
    if kvs.length ≤ 1000 then .ok (.dic (merge [] kvs), true) else .no
  | _ => .no
/-- the figures of a number -/
def figs (i : Int) : List Nat := (toString i).toList.map Char.toNat
def strD (own : D → R Rv) : List D → R Rv
  | [.int i] => if i.natAbs.log2 < 1920 then str_ (figs i) else .no
  | [.str s] => str_ s
  | [x] => own x
  | _ => .no
/-! methods -/
def joinS (a : List Nat) : List (List Nat) → List Nat
  | [] => []
  | x :: xs => xs.foldl (fun acc y => acc ++ a ++ y) x
def joinD : D → List D → R Rv
  | .str a, [.lst ds] => do
    let ss ← strsOf ds
    if (ss.map (·.length)).sum + ss.length * a.length ≤ 100000 then str_ (joinS a ss) else .no
  | _, _ => .no
def dgetD : D → D → D → R Rv
  | .dic kvs, .int i, z => .ok ((dget kvs (.inl i)).getD z, false)
  | .dic kvs, .str s, z => .ok ((dget kvs (.inr s)).getD z, false)
  | .dct kvs, .kt ks, z => do
    let k ← keysOf ks
    .ok ((dget kvs k).getD z, false)
  | _, _, _ => .no
/-! changes -/
def appendM : D → List D → R (D × D)
  | .lst xs, [y] => if xs.length < 1000 then .ok (.non, .lst (xs ++ [y])) else .no
  | _, _ => .no
def popM : D → List D → R (D × D)
  | .lst xs, [] => match xs[xs.length - 1]? with
    | some y => .ok (y, .lst xs.dropLast)
    | none => .no
  | .lst xs, [.int i] => if xs.length ≤ 1000 then match ixN xs.length i with
    | some j => match xs[j]? with
      | some y => .ok (y, .lst (xs.eraseIdx j))
      | none => .no
    | none => .no
    else .no
  | _, _ => .no
def putM : D → D → D → R D
  | .lst xs, .int i, v => match ixN xs.length i with
    | some j => .ok (.lst (xs.set j v))
    | none => .no
  | .dic kvs, .int i, v => if kvs.length < 1000 then .ok (.dic (dput kvs (.inl i) v)) else .no
  | .dic kvs, .str s, v => if kvs.length < 1000 then .ok (.dic (dput kvs (.inr s) v)) else .no
  | .dct kvs, .kt ks, v => do
    let k ← keysOf ks
    if kvs.length < 1000 then .ok (.dct (dput kvs k v)) else .no
  | _, _, _ => .no
def fldD (c k : Nat) : D → R Rv
  | .ins c' fs => if c = c' then opt fs[k]? else .no
  | _ => .no
/-! what is walked -/
def items : D → R (List D)
  | .lst ds => .ok ds
  | .fls ds => .ok ds
  | .tup ds => .ok ds
  | .str s => .ok (s.map fun c => .str [c])
  | _ => .no
def iVal (e : Ev) : Iv := fun ρ => do
  let (x, ρ1) ← val e ρ
  let ds ← items x
  pure (ds, ρ1)
def rng (lo : Int) : Nat → List D
  | 0 => []
  | n + 1 => .int lo :: rng (lo + 1) n
def iRange (as : List Ev) : Iv := fun ρ => do
  let (xs, ρ1) ← evs as ρ
  match xs with
  | [.int j] => if -(2 ^ 62) ≤ j ∧ j < 2 ^ 62 then .ok (rng 0 j.toNat, ρ1) else .no
  | [.int i, .int j] => if (-(2 ^ 62) ≤ i ∧ i < 2 ^ 62) ∧ -(2 ^ 62) ≤ j ∧ j < 2 ^ 62 then .ok (rng i (j - i).toNat, ρ1) else .no
  | _ => .no
/-- the keys of the dict at slot i -/
def iKeys (i : Nat) : Iv := fun ρ =>
  match ρ[i]? with
  | some (.sh (.dic kvs)) => .ok (kvs.map fun kv => kyD kv.1, ρ)
  | some (.ow (.dic kvs)) => .ok (kvs.map fun kv => kyD kv.1, ρ.set i (.sh (.dic kvs)))
  | _ => .no
end DY

set_option Elab.async false
set_option linter.all false
set_option maxRecDepth 100000
set_option maxHeartbeats 4000000
/-! ### the operations are those of the model -/
namespace DY
open PySem L2 PySem.Spec PyProof.Rows
variable {X : Cx} {A : CT}
theorem szK {n : Nat} (h : n ≤ 100000) : n ≤ sizeLine := by rw [sizeLine_eq]; omega
theorem S_app (a b : List Nat) : S a ++ S b = S (a ++ b) := by
  show (⟨a.toArray ++ b.toArray⟩ : Str) = ⟨(a ++ b).toArray⟩
  simp
theorem S_len (a : List Nat) : (S a).length = a.length := by show a.toArray.size = a.length; simp
theorem S_toList (a : List Nat) : (S a).cps.toList = a := by show a.toArray.toList = a; simp
def rCatF (K : PySem.W.Frag) : R2 := fun x y H Q => ∃ a b xs ys, x = .ref a ∧ y = .ref b ∧ SqT K H a xs ∧ SqT K H b ys ∧ xs.length + ys.length ≤ sizeLine ∧ (xs = [] → Q (.ref b) H) ∧ (xs ≠ [] → ys = [] → Q (.ref a) H) ∧ (xs ≠ [] → ys ≠ [] → ∀ p o, o.dict = none → H p = none → Q (.ref p) (upd H p (.frz o (.tup (xs ++ ys)))))
theorem op_catF : OpR X (binaryOp .Add) (rCatF X.K) := by
  intro pins s σ H x y v u Q I rx ry h
  obtain ⟨a, b, xs, ys, rfl, rfl, ha, hb, hz, q0, q1, q2⟩ := h
  cases rx
  cases ry
  obtain ⟨its, r1, p1, _⟩ := I.tuple ha
  obtain ⟨its2, r2, p2, _⟩ := I.tuple hb
  by_cases hx : xs = []
  · subst hx
    cases r1
    exact cat_tup0 p1 p2 ⟨.ref b, H, I, rfl, q0 rfl⟩
  · refine HT.cat_tup p1 p2 (fun z => hx (r1.nil_iff.mp z)) (fun z => ⟨.ref a, H, I, rfl, q1 hx (r2.nil_iff.mp z)⟩) (fun z => ?_) (by rw [← r1.length, ← r2.length]; exact hz)
    refine ⟨.ref s.heap.objs.size, _, I.laid (t' := s.toks) (o := .frz { cls := .type "tuple", data := .seq (its ++ its2).toArray } (.tup (xs ++ ys))) (fun b ob q => Heap.get?_push_of_some _ q) (Nat.le_refl _) ?_, rfl, q2 hx (fun w => z (r2.nil_iff.mpr w)) _ _ rfl (I.hok.fresh (Nat.le_refl _))⟩
    exact ⟨Heap.get?_push_size _ rfl, by rw [List.length_append]; exact hz, _, r1.append r2, IsTup.new _ _⟩
section
variable {own : D → D → R Rv}
theorem o_add (ho : OpR X (binaryOp .Add) (rD X.K A own)) : OpR X (binaryOp .Add) (rD X.K A (addD own)) := by
  intro pins s σ H x y v u Q I rx ry h
  obtain ⟨G, d1, d2, r, sb, r1, r2, e, k⟩ := id h
  unfold addD at e
  split at e
  · cases r1; cases r2; cases e
    exact op_add pins s σ H _ _ v u Q I rx ry ⟨_, _, rfl, rfl, same_end sb (.int _) k⟩
  · cases r1; cases r2
    rename_i a b
    split at e
    · rename_i q
      cases e
      exact SL.op_addSt pins s σ H _ _ v u Q I rx ry ⟨_, _, rfl, rfl, by rw [S_len, S_len]; exact szK q, by rw [S_app]; exact same_end sb (.str _) k⟩
    · cases e
  · cases r1 with | lst h1 q1 => cases r2 with | lst h2 q2 =>
    split at e
    · rename_i q
      cases e
      refine op_cat pins s σ H _ _ v u Q I rx ry ⟨_, _, _, _, rfl, rfl, sb.lst h1, sb.lst h2, SL.szL (by rw [q1.len, q2.len]; exact q), fun p n => ?_⟩
      obtain ⟨n0, rr⟩ := new_lst (K := X.K) (A := A) sb n (q1.append q2)
      exact k _ _ _ n0 rr
    · cases e
  · obtain ⟨p1, vs1, rfl, h1, q1⟩ := r1.sqT sb
    obtain ⟨p2, vs2, rfl, h2, q2⟩ := r2.sqT sb
    split at e
    · rename_i q
      cases e
      refine op_catF pins s σ H _ _ v u Q I rx ry ⟨_, _, _, _, rfl, rfl, h1, h2, SL.szL (by rw [q1.len, q2.len]; exact q), fun z => ?_, fun _ z => ?_, fun _ _ p o ho n => ?_⟩
      · subst z
        cases q1
        exact same_end sb r2 k
      · subst z
        cases q2
        rw [List.append_nil] at k
        exact same_end sb r1 k
      · obtain ⟨n0, rr⟩ := new_tup (K := X.K) (A := A) sb n ho (q1.append q2)
        exact k _ _ _ n0 (RepR.of rr)
    · cases e
  · exact ho pins s σ H x y v u Q I rx ry ⟨G, d1, d2, r, sb, r1, r2, e, k⟩
theorem o_sub (ho : OpR X (binaryOp .Sub) (rD X.K A own)) : OpR X (binaryOp .Sub) (rD X.K A (subD own)) := by
  intro pins s σ H x y v u Q I rx ry h
  obtain ⟨G, d1, d2, r, sb, r1, r2, e, k⟩ := id h
  unfold subD at e
  split at e
  · cases r1; cases r2; cases e
    exact op_sub pins s σ H _ _ v u Q I rx ry ⟨_, _, rfl, rfl, same_end sb (.int _) k⟩
  · exact ho pins s σ H x y v u Q I rx ry ⟨G, d1, d2, r, sb, r1, r2, e, k⟩
theorem reps_rep {G : Hp} {vs : List V} {ds : List D} (h : Reps X.K A G vs ds) (n : Nat) : Reps X.K A G (List.replicate n vs).flatten (List.replicate n ds).flatten := by
  induction n with
  | zero => exact .nil
  | succ n ih => rw [List.replicate_succ, List.replicate_succ, List.flatten_cons, List.flatten_cons]; exact h.append ih
theorem o_mul (ho : OpR X (binaryOp .Mult) (rD X.K A own)) : OpR X (binaryOp .Mult) (rD X.K A (mulD own)) := by
  intro pins s σ H x y v u Q I rx ry h
  obtain ⟨G, d1, d2, r, sb, r1, r2, e, k⟩ := id h
  unfold mulD at e
  split at e
  · cases r1; cases r2
    split at e
    · rename_i q
      cases e
      exact op_mulW pins s σ H _ _ v u Q I rx ry ⟨_, _, rfl, rfl, (by unfold mulOk at q; unfold CMulW; exact of_decide_eq_true q), same_end sb (.int _) k⟩
    · cases e
  · rename_i a0 k'
    cases r2
    cases r1 with | lst h1 q1 =>
    split at e
    · rename_i q
      cases e
      refine op_rep pins s σ H _ _ v u Q I rx ry ⟨_, _, _, rfl, rfl, sb.lst h1, by omega, by omega, SL.szL (by rw [q1.len]; exact q.2.2), fun p n => ?_⟩
      obtain ⟨n0, rr⟩ := new_lst (K := X.K) (A := A) sb n (reps_rep q1 k'.toNat)
      exact k _ _ _ n0 rr
    · cases e
  · exact ho pins s σ H x y v u Q I rx ry ⟨G, d1, d2, r, sb, r1, r2, e, k⟩
theorem o_no {f : Value → Value → Sem Value} : OpR X f (rD X.K A no2) := by
  intro pins s σ H x y v u Q I rx ry h
  obtain ⟨G, d1, d2, r, sb, r1, r2, e, k⟩ := h
  cases e
end
theorem o_fdiv : OpR X (binaryOp .FloorDiv) (rD X.K A fdivD) := by
  intro pins s σ H x y v u Q I rx ry h
  obtain ⟨G, d1, d2, r, sb, r1, r2, e, k⟩ := id h
  unfold fdivD at e
  split at e
  · cases r1; cases r2
    split at e
    · rename_i q
      cases e
      unfold divOk at q
      rw [Bool.and_eq_true] at q
      exact SL.op_fdivX pins s σ H _ _ v u Q I rx ry ⟨_, _, rfl, rfl, ⟨of_decide_eq_true q.1, of_decide_eq_true q.2⟩, same_end sb (.int _) k⟩
    · cases e
  · cases e
theorem o_mod : OpR X (binaryOp .Mod) (rD X.K A modD) := by
  intro pins s σ H x y v u Q I rx ry h
  obtain ⟨G, d1, d2, r, sb, r1, r2, e, k⟩ := id h
  unfold modD at e
  split at e
  · cases r1; cases r2
    split at e
    · cases e
    · rename_i q
      cases e
      exact op_modN pins s σ H _ _ v u Q I rx ry ⟨_, _, rfl, rfl, q, same_end sb (.int _) k⟩
  · cases e
theorem o_pow : OpR X (binaryOp .Pow) (rD X.K A powD) := by
  intro pins s σ H x y v u Q I rx ry h
  obtain ⟨G, d1, d2, r, sb, r1, r2, e, k⟩ := id h
  unfold powD at e
  split at e
  · cases r1; cases r2
    split at e
    · rename_i q
      cases e
      exact op_pow pins s σ H _ _ v u Q I rx ry ⟨_, _, rfl, rfl, ⟨q.1, by omega, q.2.2⟩, same_end sb (.int _) k⟩
    · cases e
  · cases e
theorem o_neg {own : D → R Rv} (ho : UnR X (unaryOp .USub) (rDu X.K A own)) : UnR X (unaryOp .USub) (rDu X.K A (negD own)) := by
  intro pins s σ H x v Q I rx h
  obtain ⟨G, d1, r, sb, r1, e, k⟩ := id h
  unfold negD at e
  split at e
  · cases r1; cases e
    exact un_neg pins s σ H _ v Q I rx ⟨_, rfl, same_end sb (.int _) k⟩
  · exact ho pins s σ H x v Q I rx ⟨G, d1, r, sb, r1, e, k⟩
theorem o_no1 {f : Value → Sem Value} : UnR X f (rDu X.K A no1) := by
  intro pins s σ H x v Q I rx h
  obtain ⟨G, d1, r, sb, r1, e, k⟩ := h
  cases e
/-! order -/
theorem ltN_eq : ∀ a b : List Nat, ltN a b = decide (a < b)
  | [], [] => by simp [ltN]
  | [], b :: bs => by simp [ltN]
  | a :: as, [] => by simp [ltN]
  | a :: as, b :: bs => by
    unfold ltN
    rw [ltN_eq as bs, Bool.eq_iff_iff]
    simp [List.cons_lt_cons_iff]
theorem o_cmp {op : CmpOp} {f : D → D → R Rv} {gi : Int → Int → Bool} {gs : List Nat → List Nat → Bool} (hf : ∀ x y r, f x y = .ok r → (∃ i j, x = .int i ∧ y = .int j ∧ r = (.bl (gi i j), false)) ∨ ∃ a b, x = .str a ∧ y = .str b ∧ r = (.bl (gs a b), false))
    (hi : OpR X (compareOp op) (rI0 fun i j => .bl (gi i j))) (hs : OpR X (compareOp op) (fun x y H Q => ∃ i j, x = .str i ∧ y = .str j ∧ Q (.bl (gs i.cps.toList j.cps.toList)) H)) : OpR X (compareOp op) (rD X.K A f) := by
  intro pins s σ H x y v u Q I rx ry h
  obtain ⟨G, d1, d2, r, sb, r1, r2, e, k⟩ := h
  rcases hf _ _ _ e with ⟨i, j, rfl, rfl, rfl⟩ | ⟨a, b, rfl, rfl, rfl⟩
  · cases r1; cases r2
    exact hi pins s σ H _ _ v u Q I rx ry ⟨_, _, rfl, rfl, same_end sb (.bl _) k⟩
  · cases r1; cases r2
    refine hs pins s σ H _ _ v u Q I rx ry ⟨_, _, rfl, rfl, ?_⟩
    rw [S_toList, S_toList]
    exact same_end sb (.bl _) k
theorem o_lt : OpR X (compareOp .Lt) (rD X.K A ltD) := o_cmp (gi := fun i j => decide (i < j)) (gs := ltN) (fun x y r e => by
    unfold ltD at e
    split at e
    · cases e; exact .inl ⟨_, _, rfl, rfl, rfl⟩
    · cases e; exact .inr ⟨_, _, rfl, rfl, rfl⟩
    · cases e) op_lt (by
    intro pins s σ H x y v u Q I rx ry ⟨i, j, e1, e2, q⟩
    exact SL.op_ltS pins s σ H x y v u Q I rx ry ⟨i, j, e1, e2, by rw [← ltN_eq]; exact q⟩)
theorem o_le : OpR X (compareOp .LtE) (rD X.K A leD) := o_cmp (gi := fun i j => decide (i ≤ j)) (gs := fun a b => !ltN b a) (fun x y r e => by
    unfold leD at e
    split at e
    · cases e; exact .inl ⟨_, _, rfl, rfl, rfl⟩
    · cases e; exact .inr ⟨_, _, rfl, rfl, rfl⟩
    · cases e) op_le (by
    intro pins s σ H x y v u Q I rx ry ⟨i, j, e1, e2, q⟩
    exact SL.op_leS pins s σ H x y v u Q I rx ry ⟨i, j, e1, e2, by rw [← ltN_eq]; exact q⟩)
theorem o_gt : OpR X (compareOp .Gt) (rD X.K A gtD) := o_cmp (gi := fun i j => decide (j < i)) (gs := fun a b => ltN b a) (fun x y r e => by
    unfold gtD at e
    split at e
    · cases e; exact .inl ⟨_, _, rfl, rfl, rfl⟩
    · cases e; exact .inr ⟨_, _, rfl, rfl, rfl⟩
    · cases e) op_gt (by
    intro pins s σ H x y v u Q I rx ry ⟨i, j, e1, e2, q⟩
    exact SL.op_gtS pins s σ H x y v u Q I rx ry ⟨i, j, e1, e2, by rw [← ltN_eq]; exact q⟩)
theorem o_ge : OpR X (compareOp .GtE) (rD X.K A geD) := o_cmp (gi := fun i j => decide (j ≤ i)) (gs := fun a b => !ltN a b) (fun x y r e => by
    unfold geD at e
    split at e
    · cases e; exact .inl ⟨_, _, rfl, rfl, rfl⟩
    · cases e; exact .inr ⟨_, _, rfl, rfl, rfl⟩
    · cases e) op_ge (by
    intro pins s σ H x y v u Q I rx ry ⟨i, j, e1, e2, q⟩
    exact SL.op_geS pins s σ H x y v u Q I rx ry ⟨i, j, e1, e2, by rw [← ltN_eq]; exact q⟩)
theorem nf_lt (x y : D) (r : Rv) (e : ltD x y = .ok r) : r.2 = false := by unfold ltD at e; split at e <;> cases e <;> rfl
theorem nf_le (x y : D) (r : Rv) (e : leD x y = .ok r) : r.2 = false := by unfold leD at e; split at e <;> cases e <;> rfl
theorem nf_gt (x y : D) (r : Rv) (e : gtD x y = .ok r) : r.2 = false := by unfold gtD at e; split at e <;> cases e <;> rfl
theorem nf_ge (x y : D) (r : Rv) (e : geD x y = .ok r) : r.2 = false := by unfold geD at e; split at e <;> cases e <;> rfl
/-! equality -/
mutual
def toP : D → PyData
  | .non => .none
  | .bl b => .bool b
  | .int i => .int i
  | .str l => .str (S l)
  | .tup xs => .tuple (toPs xs)
  | .kt xs => .tuple (toPs xs)
  | .lst xs => .list (toPs xs)
  | .fls xs => .list (toPs xs)
  | _ => .none
def toPs : List D → List PyData
  | [] => []
  | x :: xs => toP x :: toPs xs
end
theorem sok_eq (l : List Nat) : PySem.PyData.strOk (S l) = sok l := by
  unfold PySem.PyData.strOk sok S
  simp
mutual
theorem dok_p : ∀ (n : Nat) (d : D), dok n d = true → (toP d).canLay0 = true ∧ (toP d).depth ≤ n
  | n, .non, _ => ⟨rfl, Nat.zero_le _⟩
  | n, .bl _, _ => ⟨rfl, Nat.zero_le _⟩
  | n, .int _, _ => ⟨rfl, Nat.zero_le _⟩
  | n, .str l, h => ⟨by show PySem.PyData.strOk (S l) = true; rw [sok_eq]; cases n <;> exact h, Nat.zero_le _⟩
  | 0, .tup _, h => by cases h
  | 0, .kt _, h => by cases h
  | 0, .lst _, h => by cases h
  | 0, .fls _, h => by cases h
  | n + 1, .tup xs, h => by
    have := doks_p n xs h
    exact ⟨this.1, Nat.succ_le_succ this.2⟩
  | n + 1, .kt xs, h => by
    have := doks_p n xs h
    exact ⟨this.1, Nat.succ_le_succ this.2⟩
  | n + 1, .lst xs, h => by
    have := doks_p n xs h
    exact ⟨this.1, Nat.succ_le_succ this.2⟩
  | n + 1, .fls xs, h => by
    have := doks_p n xs h
    exact ⟨this.1, Nat.succ_le_succ this.2⟩
  | n, .dic _, h => by cases n <;> cases h
  | n, .dct _, h => by cases n <;> cases h
  | n, .ins _ _, h => by cases n <;> cases h
  | n, .ty _, h => by cases n <;> cases h
  | n, .cls _, h => by cases n <;> cases h
theorem doks_p : ∀ (n : Nat) (ds : List D), doks n ds = true → PyData.canLayAll0 (toPs ds) = true ∧ PyData.depthAll (toPs ds) ≤ n
  | n, [], _ => ⟨rfl, Nat.zero_le _⟩
  | n, x :: xs, h => by
    unfold doks at h
    rw [Bool.and_eq_true] at h
    have h1 := dok_p n x h.1
    have h2 := doks_p n xs h.2
    refine ⟨?_, Nat.max_le.mpr ⟨h1.2, h2.2⟩⟩
    show (PyData.canLay0 (toP x) && PyData.canLayAll0 (toPs xs)) = true
    rw [h1.1, h2.1]; rfl
end
theorem dok_shaped {n : Nat} {d : D} (hn : n ≤ 64) (h : dok n d = true) : SeqAt.shaped (toP d) = true := by
  have := dok_p n d h
  unfold SeqAt.shaped
  rw [this.1, decide_eq_true (Nat.le_trans this.2 hn)]; rfl
section
variable {K : PySem.W.Frag} {G H : Hp}
mutual
theorem rep_dp (sb : Sub G H) : ∀ (n : Nat) (d : D) (v : V), dok n d = true → Rep K A G v d → Dp K H v (toP d)
  | n, .non, _, _, r => by cases r; exact .non
  | n, .bl b, _, _, r => by cases r; exact .bl b
  | n, .int i, _, _, r => by cases r; exact .int i
  | n, .str l, _, _, r => by cases r; exact .str _
  | 0, .tup _, _, h, _ => by cases h
  | 0, .kt _, _, h, _ => by cases h
  | 0, .lst _, _, h, _ => by cases h
  | 0, .fls _, _, h, _ => by cases h
  | n + 1, .tup xs, _, h, r => by obtain ⟨p, vs, rfl, h1, q⟩ := r.sqT sb; exact .tup h1 (reps_dp sb n xs _ h q)
  | n + 1, .kt xs, _, h, r => by obtain ⟨p, vs, rfl, h1, q⟩ := r.sqK sb; exact .tup (SqT.of h1) (reps_dp sb n xs _ h q)
  | n + 1, .lst xs, _, h, r => by cases r with | lst h1 q => exact .lst (SqL.of (sb.lst h1)) (reps_dp sb n xs _ h q)
  | n + 1, .fls xs, _, h, r => by cases r with | fls h1 q => exact .lst (sb.sqL h1) (reps_dp sb n xs _ h q)
  | n, .dic _, _, h, _ => by cases n <;> cases h
  | n, .dct _, _, h, _ => by cases n <;> cases h
  | n, .ins _ _, _, h, _ => by cases n <;> cases h
  | n, .ty _, _, h, _ => by cases n <;> cases h
  | n, .cls _, _, h, _ => by cases n <;> cases h
theorem reps_dp (sb : Sub G H) : ∀ (n : Nat) (ds : List D) (vs : List V), doks n ds = true → Reps K A G vs ds → DpAll K H vs (toPs ds)
  | n, [], _, _, r => by cases r; exact .nil
  | n, x :: xs, _, h, r => by
    unfold doks at h
    rw [Bool.and_eq_true] at h
    cases r with
    | cons a b => exact .cons (rep_dp sb n x _ h.1 a) (reps_dp sb n xs _ h.2 b)
end
end
theorem S_beq (a b : List Nat) : (S a == S b) = (a == b) := by
  rw [Bool.eq_iff_iff, beq_iff_eq, beq_iff_eq]
  exact ⟨S_inj, fun h => by rw [h]⟩
mutual
theorem eqv_p : ∀ (n m : Nat) (x y : D), dok n x = true → dok m y = true → PyData.eqv (toP x) (toP y) = eqv x y
  | n, m, .non, y, _, h => by cases m <;> cases y <;> first | rfl | cases h
  | n, m, .bl _, y, _, h => by cases m <;> cases y <;> first | rfl | cases h
  | n, m, .int _, y, _, h => by cases m <;> cases y <;> first | rfl | cases h
  | n, m, .str a, y, _, h => by
    cases y with
    | str b => show (S a == S b) = (a == b); exact S_beq a b
    | _ => cases m <;> first | rfl | cases h
  | 0, m, .tup _, _, h, _ => by cases h
  | 0, m, .kt _, _, h, _ => by cases h
  | 0, m, .lst _, _, h, _ => by cases h
  | 0, m, .fls _, _, h, _ => by cases h
  | n + 1, m, .tup a, y, h0, h => by
    cases y with
    | tup b => cases m with
      | zero => cases h
      | succ m => exact eqvs_p n m a b h0 h
    | kt b => cases m with
      | zero => cases h
      | succ m => exact eqvs_p n m a b h0 h
    | _ => cases m <;> first | rfl | cases h
  | n + 1, m, .kt a, y, h0, h => by
    cases y with
    | tup b => cases m with
      | zero => cases h
      | succ m => exact eqvs_p n m a b h0 h
    | kt b => cases m with
      | zero => cases h
      | succ m => exact eqvs_p n m a b h0 h
    | _ => cases m <;> first | rfl | cases h
  | n + 1, m, .lst a, y, h0, h => by
    cases y with
    | lst b => cases m with
      | zero => cases h
      | succ m => exact eqvs_p n m a b h0 h
    | fls b => cases m with
      | zero => cases h
      | succ m => exact eqvs_p n m a b h0 h
    | _ => cases m <;> first | rfl | cases h
  | n + 1, m, .fls a, y, h0, h => by
    cases y with
    | lst b => cases m with
      | zero => cases h
      | succ m => exact eqvs_p n m a b h0 h
    | fls b => cases m with
      | zero => cases h
      | succ m => exact eqvs_p n m a b h0 h
    | _ => cases m <;> first | rfl | cases h
  | n, _, .dic _, _, h, _ => by cases n <;> cases h
  | n, _, .dct _, _, h, _ => by cases n <;> cases h
  | n, _, .ins _ _, _, h, _ => by cases n <;> cases h
  | n, _, .ty _, _, h, _ => by cases n <;> cases h
  | n, _, .cls _, _, h, _ => by cases n <;> cases h
theorem eqvs_p : ∀ (n m : Nat) (xs ys : List D), doks n xs = true → doks m ys = true → PyData.eqvAll (toPs xs) (toPs ys) = eqvs xs ys
  | n, m, [], [], _, _ => rfl
  | n, m, [], y :: ys, _, _ => rfl
  | n, m, x :: xs, [], _, _ => rfl
  | n, m, x :: xs, y :: ys, h, h' => by
    unfold doks at h h'
    rw [Bool.and_eq_true] at h h'
    show (PyData.eqv (toP x) (toP y) && PyData.eqvAll (toPs xs) (toPs ys)) = (eqv x y && eqvs xs ys)
    rw [eqv_p n m x y h.1 h'.1, eqvs_p n m xs ys h.2 h'.2]
end
section
variable {own : D → D → R Rv}
theorem o_eqG (hu : X.A.units + 64 < cLine) (ho : OpR X (compareOp .Eq) (rD X.K A own)) : OpR X (compareOp .Eq) (rD X.K A (eqG own)) := by
  intro pins s σ H x y v u Q I rx ry h
  obtain ⟨G, d1, d2, r, sb, r1, r2, e, k⟩ := id h
  unfold eqG at e
  split at e
  · rename_i q
    rw [Bool.and_eq_true] at q
    cases e
    refine op_eqD hu pins s σ H x y v u Q I rx ry ⟨_, _, rep_dp sb _ d1 x q.1 r1, rep_dp sb _ d2 y q.2 r2, dok_shaped (by decide) q.1, dok_shaped (by decide) q.2, ?_⟩
    rw [eqv_p _ _ _ _ q.1 q.2]
    exact same_end sb (.bl _) k
  · exact ho pins s σ H x y v u Q I rx ry ⟨G, d1, d2, r, sb, r1, r2, e, k⟩
theorem o_eq (hu : X.A.units + 64 < cLine) (ho : OpR X (compareOp .Eq) (rD X.K A own)) : OpR X (compareOp .Eq) (rD X.K A (eqD own)) := by
  intro pins s σ H x y v u Q I rx ry h
  obtain ⟨G, d1, d2, r, sb, r1, r2, e, k⟩ := id h
  unfold eqD at e
  split at e
  · cases r1; cases r2; cases e
    exact op_eq pins s σ H _ _ v u Q I rx ry (SL.go_eqI (same_end sb (.bl _) k))
  · rename_i a b
    cases r1; cases r2; cases e
    refine op_eq pins s σ H _ _ v u Q I rx ry (SL.go_eqS ?_)
    have z : decide (S a = S b) = decide (a = b) := by
      by_cases h : a = b
      · rw [h]; simp
      · rw [decide_eq_false h, decide_eq_false fun z => h (S_inj z)]
    rw [z]
    exact same_end sb (.bl _) k
  · cases r1; cases r2; cases e
    exact op_eq pins s σ H _ _ v u Q I rx ry (SL.go_eqB (same_end sb (.bl _) k))
  · exact o_eqG hu ho pins s σ H x y v u Q I rx ry ⟨G, d1, d2, r, sb, r1, r2, e, k⟩
/-- own !=, by what == says -/
def neOf (own : D → D → R Rv) : D → D → R Rv := fun x y => do
  let r ← own x y
  let b ← isB r.1
  bl_ (!b)
theorem o_neG (hu : X.A.units + 64 < cLine) (ho : OpR X (compareOp .NotEq) (rD X.K A (neOf own))) : OpR X (compareOp .NotEq) (rD X.K A (neG own)) := by
  intro pins s σ H x y v u Q I rx ry h
  obtain ⟨G, d1, d2, r, sb, r1, r2, e, k⟩ := id h
  unfold neG at e
  split at e
  · rename_i q
    rw [Bool.and_eq_true] at q
    cases e
    refine op_neD hu pins s σ H x y v u Q I rx ry ⟨_, _, rep_dp sb _ d1 x q.1 r1, rep_dp sb _ d2 y q.2 r2, dok_shaped (by decide) q.1, dok_shaped (by decide) q.2, ?_⟩
    rw [eqv_p _ _ _ _ q.1 q.2]
    exact same_end sb (.bl _) k
  · exact ho pins s σ H x y v u Q I rx ry ⟨G, d1, d2, r, sb, r1, r2, e, k⟩
theorem o_ne (hu : X.A.units + 64 < cLine) (ho : OpR X (compareOp .NotEq) (rD X.K A (neOf own))) : OpR X (compareOp .NotEq) (rD X.K A (neD own)) := by
  intro pins s σ H x y v u Q I rx ry h
  obtain ⟨G, d1, d2, r, sb, r1, r2, e, k⟩ := id h
  unfold neD at e
  split at e
  · cases r1; cases r2; cases e
    exact op_ne pins s σ H _ _ v u Q I rx ry (SL.go_neI (same_end sb (.bl _) k))
  · rename_i a b
    cases r1; cases r2; cases e
    refine op_ne pins s σ H _ _ v u Q I rx ry (SL.go_neS ?_)
    have z : decide (S a = S b) = decide (a = b) := by
      by_cases h : a = b
      · rw [h]; simp
      · rw [decide_eq_false h, decide_eq_false fun z => h (S_inj z)]
    rw [z]
    exact same_end sb (.bl _) k
  · cases r1; cases r2; cases e
    exact op_ne pins s σ H _ _ v u Q I rx ry (SL.go_neB (same_end sb (.bl _) k))
  · exact o_neG hu ho pins s σ H x y v u Q I rx ry ⟨G, d1, d2, r, sb, r1, r2, e, k⟩
end
theorem o_noNe : OpR X (compareOp .NotEq) (rD X.K A (neOf no2)) := by
  intro pins s σ H x y v u Q I rx ry h
  obtain ⟨G, d1, d2, r, sb, r1, r2, e, k⟩ := h
  cases e
theorem o_isN : OpR X (compareOp .Is) (rD X.K A isN) := by
  intro pins s σ H x y v u Q I rx ry h
  obtain ⟨G, d1, d2, r, sb, r1, r2, e, k⟩ := h
  unfold isN at e
  split at e
  · cases r1; cases r2; cases e
    exact op_isN pins s σ H _ _ v u Q I rx ry ⟨rfl, same_end sb (.bl _) k⟩
  · rename_i n
    cases r2; cases e
    refine op_isN pins s σ H _ _ v u Q I rx ry ⟨rfl, ?_⟩
    rw [decide_eq_false (fun z => by subst z; cases r1; exact n rfl)]
    exact same_end sb (.bl _) k
  · cases e
theorem o_notN : OpR X (compareOp .IsNot) (rD X.K A notN) := by
  intro pins s σ H x y v u Q I rx ry h
  obtain ⟨G, d1, d2, r, sb, r1, r2, e, k⟩ := h
  unfold notN at e
  split at e
  · cases r1; cases r2; cases e
    exact op_notN pins s σ H _ _ v u Q I rx ry ⟨rfl, same_end sb (.bl _) k⟩
  · rename_i n
    cases r2; cases e
    refine op_notN pins s σ H _ _ v u Q I rx ry ⟨rfl, ?_⟩
    rw [decide_eq_false (fun z => by subst z; cases r1; exact n rfl)]
    exact same_end sb (.bl _) k
  · cases e
end DY

set_option Elab.async false
set_option linter.all false
set_option maxRecDepth 100000
set_option maxHeartbeats 4000000
namespace DY
open PySem L2 PySem.Spec PyProof.Rows
section
variable {K : PySem.W.Frag} {A : CT} {G G' H H' : Hp} {Q : VK}
/-! dicts -/
theorem RepK.val {kvs : List (Key × V)} {ds : List (Ky × D)} (h : RepK K A G kvs ds) (k : Ky) : (∃ d v, dget ds k = some d ∧ valV kvs (kK k) = some v ∧ Rep K A G v d) ∨ (dget ds k = none ∧ valV kvs (kK k) = none) := by
  induction ds generalizing kvs with
  | nil => cases h; exact .inr ⟨rfl, rfl⟩
  | cons p ds ih =>
    cases h with
    | @cons q v d vs _ a b =>
      by_cases e : q = k
      · subst e
        exact .inl ⟨d, v, by unfold dget; simp, valV_pos (p := (kK q, v)) rfl, a⟩
      · have e' : ¬ kK q = kK k := fun z => e (kK_inj z)
        rcases ih b with ⟨d', v', h1, h2, h3⟩ | ⟨h1, h2⟩
        · exact .inl ⟨d', v', by unfold dget at *; simpa [e] using h1, by rw [valV_neg (p := (kK q, v)) e']; exact h2, h3⟩
        · exact .inr ⟨by unfold dget at *; simpa [e] using h1, by rw [valV_neg (p := (kK q, v)) e']; exact h2⟩
theorem map_kK_inj {a b : List Ky} (h : a.map kK = b.map kK) : a = b := List.map_inj_right (fun _ _ z => kK_inj z) |>.mp h
theorem RepT.val {kvs : List (List Key × V)} {ds : List (List Ky × D)} (h : RepT K A G kvs ds) (k : List Ky) : (∃ d v, dget ds k = some d ∧ valV kvs (k.map kK) = some v ∧ Rep K A G v d) ∨ (dget ds k = none ∧ valV kvs (k.map kK) = none) := by
  induction ds generalizing kvs with
  | nil => cases h; exact .inr ⟨rfl, rfl⟩
  | cons p ds ih =>
    cases h with
    | @cons q v d vs _ a b =>
      by_cases e : q = k
      · subst e
        exact .inl ⟨d, v, by unfold dget; simp, valV_pos (p := (q.map kK, v)) rfl, a⟩
      · have e' : ¬ q.map kK = k.map kK := fun z => e (map_kK_inj z)
        rcases ih b with ⟨d', v', h1, h2, h3⟩ | ⟨h1, h2⟩
        · exact .inl ⟨d', v', by unfold dget at *; simpa [e] using h1, by rw [valV_neg (p := (q.map kK, v)) e']; exact h2, h3⟩
        · exact .inr ⟨by unfold dget at *; simpa [e] using h1, by rw [valV_neg (p := (q.map kK, v)) e']; exact h2⟩
theorem RepK.len {kvs : List (Key × V)} {ds : List (Ky × D)} (h : RepK K A G kvs ds) : kvs.length = ds.length := by
  induction ds generalizing kvs with
  | nil => cases h; rfl
  | cons p ds ih => cases h with | cons a b => rw [List.length_cons, List.length_cons, ih b]
theorem RepT.len {kvs : List (List Key × V)} {ds : List (List Ky × D)} (h : RepT K A G kvs ds) : kvs.length = ds.length := by
  induction ds generalizing kvs with
  | nil => cases h; rfl
  | cons p ds ih => cases h with | cons a b => rw [List.length_cons, List.length_cons, ih b]
theorem RepK.any {kvs : List (Key × V)} {ds : List (Ky × D)} (h : RepK K A G kvs ds) (k : Ky) : (kvs.any fun kv => decide (kv.1 = kK k)) = (ds.any fun kv => decide (kv.1 = k)) := by
  induction ds generalizing kvs with
  | nil => cases h; rfl
  | cons p ds ih =>
    cases h with
    | @cons q v d vs _ a b =>
      rw [List.any_cons, List.any_cons, ih b]
      congr 1
      by_cases e : q = k
      · subst e; simp
      · rw [decide_eq_false e, decide_eq_false fun z => e (kK_inj z)]
theorem RepK.repl {kvs : List (Key × V)} {ds : List (Ky × D)} (h : RepK K A G kvs ds) (k : Ky) {v : V} {d : D} (r : Rep K A G v d) : RepK K A G (kvs.map fun kv => if kv.1 = kK k then (kv.1, v) else kv) (ds.map fun kv => if kv.1 = k then (kv.1, d) else kv) := by
  induction ds generalizing kvs with
  | nil => cases h; exact .nil
  | cons p ds ih =>
    cases h with
    | @cons q v' d' vs _ a b =>
      rw [List.map_cons, List.map_cons]
      by_cases e : q = k
      · rw [if_pos (congrArg kK e), if_pos e]; exact .cons r (ih b)
      · rw [if_neg fun z => e (kK_inj z), if_neg e]; exact .cons a (ih b)
theorem RepK.append {kvs ks : List (Key × V)} {ds es : List (Ky × D)} (h : RepK K A G kvs ds) (h' : RepK K A G ks es) : RepK K A G (kvs ++ ks) (ds ++ es) := by
  induction ds generalizing kvs with
  | nil => cases h; exact h'
  | cons p ds ih => cases h with | cons a b => exact .cons a (ih b)
theorem RepK.put {kvs : List (Key × V)} {ds : List (Ky × D)} (h : RepK K A G kvs ds) (k : Ky) {v : V} {d : D} (r : Rep K A G v d) : RepK K A G (putK kvs (kK k) v) (dput ds k d) := by
  unfold putK dput
  rw [h.any]
  split
  · exact h.repl k r
  · exact h.append (.cons r .nil)
theorem RepT.any {kvs : List (List Key × V)} {ds : List (List Ky × D)} (h : RepT K A G kvs ds) (k : List Ky) : (kvs.any fun kv => decide (kv.1 = k.map kK)) = (ds.any fun kv => decide (kv.1 = k)) := by
  induction ds generalizing kvs with
  | nil => cases h; rfl
  | cons p ds ih =>
    cases h with
    | @cons q v d vs _ a b =>
      rw [List.any_cons, List.any_cons, ih b]
      congr 1
      by_cases e : q = k
      · subst e; simp
      · rw [decide_eq_false e, decide_eq_false fun z => e (map_kK_inj z)]
theorem RepT.repl {kvs : List (List Key × V)} {ds : List (List Ky × D)} (h : RepT K A G kvs ds) (k : List Ky) {v : V} {d : D} (r : Rep K A G v d) : RepT K A G (kvs.map fun kv => if kv.1 = k.map kK then (kv.1, v) else kv) (ds.map fun kv => if kv.1 = k then (kv.1, d) else kv) := by
  induction ds generalizing kvs with
  | nil => cases h; exact .nil
  | cons p ds ih =>
    cases h with
    | @cons q v' d' vs _ a b =>
      rw [List.map_cons, List.map_cons]
      by_cases e : q = k
      · rw [if_pos (congrArg (List.map kK) e), if_pos e]; exact .cons r (ih b)
      · rw [if_neg fun z => e (map_kK_inj z), if_neg e]; exact .cons a (ih b)
theorem RepT.append {kvs ks : List (List Key × V)} {ds es : List (List Ky × D)} (h : RepT K A G kvs ds) (h' : RepT K A G ks es) : RepT K A G (kvs ++ ks) (ds ++ es) := by
  induction ds generalizing kvs with
  | nil => cases h; exact h'
  | cons p ds ih => cases h with | cons a b => exact .cons a (ih b)
theorem RepT.put {kvs : List (List Key × V)} {ds : List (List Ky × D)} (h : RepT K A G kvs ds) (k : List Ky) {v : V} {d : D} (r : Rep K A G v d) : RepT K A G (putK kvs (k.map kK) v) (dput ds k d) := by
  unfold putK dput
  rw [h.any]
  split
  · exact h.repl k r
  · exact h.append (.cons r .nil)
theorem keyOf_rep {v : V} {d : D} {k : Ky} (r : Rep K A G v d) (e : keyOf d = .ok k) : v = kV (kK k) ∧ d = kyD k := by
  unfold keyOf at e
  split at e
  · cases r; cases e; exact ⟨rfl, rfl⟩
  · cases r; cases e; exact ⟨rfl, rfl⟩
  · cases e
theorem keysOf_rep {ds : List D} {ks : List Ky} {vs : List V} (r : Reps K A G vs ds) (e : keysOf ds = .ok ks) : vs = (ks.map kK).map kV ∧ ds ≠ [] := by
  induction ds generalizing vs ks with
  | nil => cases e
  | cons d ds ih =>
    cases r with
    | cons a b =>
      refine ⟨?_, fun z => nomatch z⟩
      cases ds with
      | nil =>
        cases b
        obtain ⟨k, e1, e⟩ := bind_ok e
        cases e
        rw [(keyOf_rep a e1).1]; rfl
      | cons d' ds =>
        obtain ⟨k, e1, e⟩ := bind_ok e
        obtain ⟨ks', e2, e⟩ := bind_ok e
        cases e
        rw [List.map_cons, List.map_cons, ← (ih b e2).1, (keyOf_rep a e1).1]
theorem key_tup {v : V} {ds : List D} {ks : List Ky} (r : Rep K A G v (.kt ds)) (e : keysOf ds = .ok ks) (s : Sub G H) : ∃ b, v = .ref b ∧ H b = some (.tup ((ks.map kK).map kV)) := by
  obtain ⟨p, vs, rfl, h, q⟩ := r.sqK s
  rw [(keysOf_rep q e).1] at h
  exact ⟨p, rfl, h⟩
theorem kyD_rep (k : Ky) : Rep K A G (kV (kK k)) (kyD k) := by
  cases k with
  | inl i => exact .int i
  | inr l => exact .str l
/-! a value, or an own object that is looked at -/
def RepB (K : PySem.W.Frag) (A : CT) (G H : Hp) (x : V) (d : D) : Prop := Rep K A G x d ∨ ∃ p, x = .ref p ∧ G p = none ∧ Has K A G H p d
theorem RepB.lst {x : V} {ds : List D} (s : Sub G H) (h : RepB K A G H x (.lst ds)) : ∃ p vs, x = .ref p ∧ H p = some (.lst vs) ∧ Reps K A G vs ds := by
  rcases h with h | ⟨p, e, _, vs, h1, h2⟩
  · cases h with | lst h1 h2 => exact ⟨_, _, rfl, s.lst h1, h2⟩
  · exact ⟨p, vs, e, h1, h2⟩
theorem RepB.dic {x : V} {ds : List (Ky × D)} (s : Sub G H) (h : RepB K A G H x (.dic ds)) : ∃ p kvs, x = .ref p ∧ Rd H p (.dK kvs) ∧ RepK K A G kvs ds := by
  rcases h with h | ⟨p, e, _, vs, h1, h2⟩
  · cases h with | dic h1 h2 => exact ⟨_, _, rfl, s.dK h1, h2⟩
  · exact ⟨p, vs, e, .inl h1, h2⟩
theorem RepB.dct {x : V} {ds : List (List Ky × D)} (s : Sub G H) (h : RepB K A G H x (.dct ds)) : ∃ p kvs, x = .ref p ∧ Rd H p (.dT kvs) ∧ RepT K A G kvs ds := by
  rcases h with h | ⟨p, e, _, vs, h1, h2⟩
  · cases h with | dct h1 h2 => exact ⟨_, _, rfl, s.dT h1, h2⟩
  · exact ⟨p, vs, e, .inl h1, h2⟩
theorem RepB.tup {x : V} {ds : List D} (s : Sub G H) (h : RepB K A G H x (.tup ds)) : ∃ p vs, x = .ref p ∧ SqT K H p vs ∧ Reps K A G vs ds := by
  rcases h with h | ⟨p, e, _, h⟩
  · exact h.sqT s
  · exact h.elim
theorem RepB.fls {x : V} {ds : List D} (s : Sub G H) (h : RepB K A G H x (.fls ds)) : ∃ p vs, x = .ref p ∧ SqL K H p vs ∧ Reps K A G vs ds := by
  rcases h with h | ⟨p, e, _, h⟩
  · cases h with | fls h1 h2 => exact ⟨_, _, rfl, s.sqL h1, h2⟩
  · exact h.elim
theorem RepB.str {x : V} {l : List Nat} (h : RepB K A G H x (.str l)) : x = .str (S l) := by
  rcases h with h | ⟨p, e, _, h⟩
  · cases h; rfl
  · exact h.elim
variable (K A) in
def rDb (f : D → D → R Rv) : R2 := fun x y H Q => ∃ G d1 d2 d, Sub G H ∧ RepB K A G H x d1 ∧ Rep K A G y d2 ∧ f d1 d2 = .ok (d, false) ∧ ∀ v, Rep K A G v d → Q v H
variable (K A) in
def rDc (f : D → D → R Rv) : R2 := fun x y H Q => ∃ G d1 d2 d, Sub G H ∧ Rep K A G x d1 ∧ RepB K A G H y d2 ∧ f d1 d2 = .ok (d, false) ∧ ∀ v, Rep K A G v d → Q v H
variable (K A) in
def rDb1 (f : D → R Rv) : List V → Hp → VK → Prop := fun xs H Q => ∃ G x d1 d, xs = [x] ∧ Sub G H ∧ RepB K A G H x d1 ∧ f d1 = .ok (d, false) ∧ ∀ v, Rep K A G v d → Q v H
theorem rD_b {f : D → D → R Rv} {x y : V} (nf : ∀ x y r, f x y = .ok r → r.2 = false) (h : rD K A f x y H Q) : rDb K A f x y H Q := by
  obtain ⟨G, d1, d2, ⟨d, b⟩, sb, r1, r2, e, k⟩ := h
  obtain rfl : b = false := nf _ _ _ e
  exact ⟨G, d1, d2, d, sb, .inl r1, r2, e, fun v r => k v G H (Nx0.refl sb) (RepR.of r)⟩
theorem rD_c {f : D → D → R Rv} {x y : V} (nf : ∀ x y r, f x y = .ok r → r.2 = false) (h : rD K A f x y H Q) : rDc K A f x y H Q := by
  obtain ⟨G, d1, d2, ⟨d, b⟩, sb, r1, r2, e, k⟩ := h
  obtain rfl : b = false := nf _ _ _ e
  exact ⟨G, d1, d2, d, sb, r1, .inl r2, e, fun v r => k v G H (Nx0.refl sb) (RepR.of r)⟩
theorem opt_ok {o : Option D} {d : D} {b : Bool} (h : opt o = .ok (d, b)) : o = some d ∧ b = false := by
  unfold opt at h
  split at h
  · cases h; exact ⟨rfl, rfl⟩
  · cases h
theorem nf_ix (x y : D) (r : Rv) (e : ixD x y = .ok r) : r.2 = false := by
  obtain ⟨d, b⟩ := r
  unfold ixD at e
  split at e
  · exact (opt_ok e).2
  · exact (opt_ok e).2
  · exact (opt_ok e).2
  · split at e
    · exact (opt_ok e).2
    · cases e
  · exact (opt_ok e).2
  · exact (opt_ok e).2
  · obtain ⟨_, _, e⟩ := bind_ok e; exact (opt_ok e).2
  · cases e
theorem nf_in (x y : D) (r : Rv) (e : inD x y = .ok r) : r.2 = false := by
  obtain ⟨_, _, e⟩ := bind_ok e
  cases e; rfl
theorem nf_nin (x y : D) (r : Rv) (e : ninD x y = .ok r) : r.2 = false := by
  obtain ⟨_, _, e⟩ := bind_ok e
  cases e; rfl
theorem atI_eq {α : Type} (xs : List α) (i : Int) : DY.atI xs i = L2.atI xs i := rfl
theorem atI_rep {vs : List V} {ds : List D} {i : Int} {d : D} (r : Reps K A G vs ds) (e : DY.atI ds i = some d) : ∃ v, L2.atI vs i = some v ∧ Rep K A G v d := by
  unfold DY.atI at e
  unfold L2.atI
  rw [r.len]
  obtain ⟨j, h1, h2⟩ := Option.bind_eq_some_iff.mp e
  obtain ⟨v, h3, h4⟩ := r.get' h2
  exact ⟨v, Option.bind_eq_some_iff.mpr ⟨j, h1, h3⟩, h4⟩
end
variable {X : Cx} {A : CT}
/-- d[y] by values -/
theorem ix_dict (hu : X.A.units + 1 < cLine) : IxR X (fun x y H Q => ∃ a v, x = .ref a ∧ DGet H a y (some v) ∧ Q v H) := by
  intro value slice pins s σ H x y v u Q I rx ry h hs
  obtain ⟨a, w, rfl, g, q⟩ := h
  obtain rfl : v = Value.ref a := rx
  have hT := dict_typeIs I g
  unfold subscriptTail
  refine wpAny_bind ?_
  rw [getitemInPython_of_ne hT.not_modules]
  refine wpAny_bind (wpAny_specialOf hT PySem.F.slot_dict_getitem.lookup ?_)
  have fin : wpAny (model X.prog X.w) X.A (subscripted slice false (.ref a) u) (fun r s₃ => wpAny (model X.prog X.w) X.A (letTemporaryGo value (.ref a) r >>= fun _ => pure r) (EP X pins σ Q) X.xe s₃) X.xe s := by
    rw [hs]
    exact wpAny_operating (d_getItem hu I g ry fun w' s3 I3 rw' => wpAny_bind (wpAny_letTemporaryGo (wpAny_pure ⟨w, H, I3, rw', q⟩)))
  first
    | exact wpAny_pure (wpAny_bind fin)
    | exact wpAny_bind (wpAny_pure (wpAny_bind fin))
    | exact wpAny_bind fin
theorem DGet.kr {H : Hp} {a : Addr} {kvs : List (Key × V)} {k : Key} (e : Rd H a (.dK kvs)) : DGet H a (kV k) (valV kvs k) := .inl ⟨kvs, k, e, rfl, rfl⟩
theorem DGet.tr {H : Hp} {a b : Addr} {kvs : List (List Key × V)} {k : List Key} (e : Rd H a (.dT kvs)) (eb : H b = some (.tup (k.map kV))) : DGet H a (.ref b) (valV kvs k) := .inr ⟨kvs, k, b, e, rfl, eb, rfl⟩
theorem o_ixb (hu : X.A.units + 1 < cLine) : IxR X (rDb X.K A ixD) := by
  intro value slice pins s σ H x y v u Q I rx ry h hs
  obtain ⟨G, d1, d2, d, sb, r1, r2, e, k⟩ := h
  unfold ixD at e
  split at e
  · cases r2
    obtain ⟨p, vs, rfl, h1, q1⟩ := r1.lst sb
    obtain ⟨w, h2, h3⟩ := atI_rep q1 (opt_ok e).1
    exact ix_list value slice pins s σ H _ _ v u Q I rx ry ⟨p, vs, _, w, rfl, rfl, SqL.of h1, h2, k _ h3⟩ hs
  · cases r2
    obtain ⟨p, vs, rfl, h1, q1⟩ := r1.fls sb
    obtain ⟨w, h2, h3⟩ := atI_rep q1 (opt_ok e).1
    exact ix_list value slice pins s σ H _ _ v u Q I rx ry ⟨p, vs, _, w, rfl, rfl, h1, h2, k _ h3⟩ hs
  · cases r2
    obtain ⟨p, vs, rfl, h1, q1⟩ := r1.tup sb
    obtain ⟨w, h2, h3⟩ := atI_rep q1 (opt_ok e).1
    exact ix_tup value slice pins s σ H _ _ v u Q I rx ry ⟨p, vs, _, w, rfl, rfl, h1, h2, k _ h3⟩ hs
  · cases r2
    obtain rfl := r1.str
    split at e
    · rename_i q
      obtain ⟨c, h1, h2⟩ := Option.map_eq_some_iff.mp (opt_ok e).1
      subst h2
      exact ix_str value slice pins s σ H _ _ v u Q I rx ry ⟨_, _, c, rfl, rfl, by rw [S_len]; exact szK q, by rw [S_toList]; exact h1, k _ (.str [c])⟩ hs
    · cases e
  · cases r2
    rename_i kvs i
    obtain ⟨p, k', rfl, h1, q1⟩ := r1.dic sb
    rcases q1.val (.inl i) with ⟨d', w, h2, h3, h4⟩ | ⟨h2, h3⟩
    · rw [h2] at e
      obtain ⟨e, _⟩ := opt_ok e
      cases e
      exact ix_dict hu value slice pins s σ H _ _ v u Q I rx ry ⟨p, w, rfl, h3 ▸ DGet.kr (k := .inl i) h1, k _ h4⟩ hs
    · rw [h2] at e; cases e
  · cases r2
    rename_i kvs l
    obtain ⟨p, k', rfl, h1, q1⟩ := r1.dic sb
    rcases q1.val (.inr l) with ⟨d', w, h2, h3, h4⟩ | ⟨h2, h3⟩
    · rw [h2] at e
      obtain ⟨e, _⟩ := opt_ok e
      cases e
      exact ix_dict hu value slice pins s σ H _ _ v u Q I rx ry ⟨p, w, rfl, h3 ▸ DGet.kr (k := .inr (S l)) h1, k _ h4⟩ hs
    · rw [h2] at e; cases e
  · rename_i kvs ks
    obtain ⟨kk, e0, e⟩ := bind_ok e
    obtain ⟨p, k', rfl, h1, q1⟩ := r1.dct sb
    obtain ⟨b, rfl, hb⟩ := key_tup r2 e0 sb
    rcases q1.val kk with ⟨d', w, h2, h3, h4⟩ | ⟨h2, h3⟩
    · rw [h2] at e
      obtain ⟨e, _⟩ := opt_ok e
      cases e
      exact ix_dict hu value slice pins s σ H _ _ v u Q I rx ry ⟨p, w, rfl, h3 ▸ DGet.tr h1 hb, k _ h4⟩ hs
    · rw [h2] at e; cases e
  · cases e
theorem o_ix (hu : X.A.units + 1 < cLine) : IxR X (rD X.K A ixD) := fun value slice pins s σ H x y v u Q I rx ry h hs => o_ixb hu value slice pins s σ H x y v u Q I rx ry (rD_b nf_ix h) hs
/-! in -/
theorem flat_eq {K : PySem.W.Frag} {G : Hp} {v w : V} {d e : D} (r : Rep K A G v d) (r' : Rep K A G w e) (f : flat d = true) (f' : flat e = true) : eqV v w = eqv d e := by
  cases r <;> first | (cases f; done) | (cases r' <;> first | (cases f'; done) | rfl | exact S_beq _ _)
theorem flat_v {K : PySem.W.Frag} {G : Hp} {v : V} {d : D} (r : Rep K A G v d) (f : flat d = true) : flatV v = true := by
  cases r <;> first | (cases f; done) | rfl
theorem flat_all {K : PySem.W.Frag} {G : Hp} {vs : List V} {ds : List D} (r : Reps K A G vs ds) (f : ds.all flat = true) : vs.all flatV = true := by
  induction ds generalizing vs with
  | nil => cases r; rfl
  | cons d ds ih =>
    cases r with
    | cons a b =>
      rw [List.all_cons, Bool.and_eq_true] at f
      rw [List.all_cons, flat_v a f.1, ih b f.2]; rfl
theorem flat_any {K : PySem.W.Frag} {G : Hp} {vs : List V} {ds : List D} {w : V} {e : D} (r : Reps K A G vs ds) (f : ds.all flat = true) (r' : Rep K A G w e) (f' : flat e = true) : inV w vs = ds.any fun z => eqv z e := by
  unfold inV
  induction ds generalizing vs with
  | nil => cases r; rfl
  | cons d ds ih =>
    cases r with
    | cons a b =>
      rw [List.all_cons, Bool.and_eq_true] at f
      rw [List.any_cons, List.any_cons, ih b f.2, flat_eq a r' f.1 f']
theorem any_p {n m : Nat} {x : D} (hx : dok m x = true) : ∀ {ds : List D}, doks n ds = true → ((toPs ds).any fun z => PyData.eqv z (toP x)) = ds.any fun z => eqv z x
  | [], _ => rfl
  | d :: ds, h => by
    unfold doks at h
    rw [Bool.and_eq_true] at h
    show (PyData.eqv (toP d) (toP x) || (toPs ds).any fun z => PyData.eqv z (toP x)) = (eqv d x || ds.any fun z => eqv z x)
    rw [eqv_p n m d x h.1 hx, any_p hx h.2]
theorem doks_shaped {n : Nat} {ds : List D} (hn : n < 64) (h : doks n ds = true) : SeqAt.shaped (.list (toPs ds)) = true := dok_shaped (n := n + 1) (d := .lst ds) (by omega) h
/-- what the two rules share -/
theorem inB_use {op : CmpOp} {g : Bool → Bool} (hu : X.A.units + 65 < cLine)
    (h1 : OpR X (compareOp op) (fun x y H Q => ∃ (c : Nat) (z : Str), x = .str ⟨#[c]⟩ ∧ y = .str z ∧ Q (.bl (g (decide (c ∈ z.cps.toList)))) H))
    (h2 : OpR X (compareOp op) (fun y x H Q => ∃ a o, x = .ref a ∧ DGet H a y o ∧ Q (.bl (g o.isSome)) H))
    (h3 : OpR X (compareOp op) (fun x y H Q => ∃ p xs, y = .ref p ∧ (SqL X.K H p xs ∨ SqT X.K H p xs) ∧ flatV x = true ∧ xs.all flatV = true ∧ Q (.bl (g (inV x xs))) H))
    (h4 : OpR X (compareOp op) (fun x y H Q => ∃ d ds, Dp X.K H x d ∧ Dp X.K H y (.list ds) ∧ SeqAt.shaped d = true ∧ SeqAt.shaped (.list ds) = true ∧ Q (.bl (g (ds.any fun z => PyData.eqv z d))) H)) :
    OpR X (compareOp op) (rDc X.K A (fun x y => do let b ← inB x y; bl_ (g b))) := by
  intro pins s σ H x y v u Q I rx ry h
  obtain ⟨G, d1, d2, d, sb, r1, r2, e, k⟩ := h
  obtain ⟨b, e1, e'⟩ := bind_ok e
  cases e'
  clear e
  have e := e1
  clear e1
  unfold inB at e
  split at e
  · cases r1
    obtain rfl := r2.str
    cases e
    exact h1 pins s σ H _ _ v u Q I rx ry ⟨_, _, rfl, rfl, by rw [S_toList]; exact k _ (.bl _)⟩
  · cases r1
    rename_i i kvs
    obtain ⟨p, k', rfl, q0, q1⟩ := r2.dic sb
    cases e
    refine h2 pins s σ H _ _ v u Q I rx ry ⟨p, _, rfl, DGet.kr (k := .inl i) q0, ?_⟩
    rcases q1.val (.inl i) with ⟨d', w, h2, h3, h4⟩ | ⟨h2, h3⟩
    · rw [show valV k' (.inl i) = some w from h3]; rw [h2] at k; exact k _ (.bl _)
    · rw [show valV k' (.inl i) = none from h3]; rw [h2] at k; exact k _ (.bl _)
  · cases r1
    rename_i l kvs
    obtain ⟨p, k', rfl, q0, q1⟩ := r2.dic sb
    cases e
    refine h2 pins s σ H _ _ v u Q I rx ry ⟨p, _, rfl, DGet.kr (k := .inr (S l)) q0, ?_⟩
    rcases q1.val (.inr l) with ⟨d', w, h2, h3, h4⟩ | ⟨h2, h3⟩
    · rw [show valV k' (.inr (S l)) = some w from h3]; rw [h2] at k; exact k _ (.bl _)
    · rw [show valV k' (.inr (S l)) = none from h3]; rw [h2] at k; exact k _ (.bl _)
  · rename_i ks kvs
    obtain ⟨kk, e0, e⟩ := bind_ok e
    cases e
    obtain ⟨p, k', rfl, q0, q1⟩ := r2.dct sb
    obtain ⟨b, rfl, hb⟩ := key_tup r1 e0 sb
    refine h2 pins s σ H _ _ v u Q I rx ry ⟨p, _, rfl, DGet.tr q0 hb, ?_⟩
    rcases q1.val kk with ⟨d', w, h2, h3, h4⟩ | ⟨h2, h3⟩
    · rw [h3]; rw [h2] at k; exact k _ (.bl _)
    · rw [h3]; rw [h2] at k; exact k _ (.bl _)
  · obtain ⟨p, vs, rfl, q0, q1⟩ := r2.tup sb
    split at e
    · rename_i q
      rw [Bool.and_eq_true] at q
      cases e
      exact h3 pins s σ H _ _ v u Q I rx ry ⟨p, vs, rfl, .inr q0, flat_v r1 q.1, flat_all q1 q.2, by rw [flat_any q1 q.2 r1 q.1]; exact k _ (.bl _)⟩
    · cases e
  · obtain ⟨p, vs, rfl, q0, q1⟩ := r2.lst sb
    split at e
    · rename_i q
      rw [Bool.and_eq_true] at q
      cases e
      exact h4 pins s σ H _ _ v u Q I rx ry ⟨_, _, rep_dp sb _ _ _ q.1 r1, .lst (SqL.of q0) (reps_dp sb _ _ _ q.2 q1), dok_shaped (by decide) q.1, doks_shaped (by decide) q.2, by rw [any_p q.1 q.2]; exact k _ (.bl _)⟩
    · cases e
  · obtain ⟨p, vs, rfl, q0, q1⟩ := r2.fls sb
    split at e
    · rename_i q
      rw [Bool.and_eq_true] at q
      cases e
      exact h4 pins s σ H _ _ v u Q I rx ry ⟨_, _, rep_dp sb _ _ _ q.1 r1, .lst q0 (reps_dp sb _ _ _ q.2 q1), dok_shaped (by decide) q.1, doks_shaped (by decide) q.2, by rw [any_p q.1 q.2]; exact k _ (.bl _)⟩
    · cases e
  · cases e
theorem op_dIn (hu : X.A.units + 1 < cLine) : OpR X (compareOp .In) (fun y x H Q => ∃ a o, x = .ref a ∧ DGet H a y o ∧ Q (.bl o.isSome) H) := by
  intro pins s σ H x y v u Q I rx ry ⟨a, o, e, g, q⟩
  subst e
  obtain rfl : u = Value.ref a := ry
  exact d_in hu I g rx fun s3 I3 => ⟨.bl o.isSome, H, I3, rfl, q⟩
theorem op_dNotIn (hu : X.A.units + 1 < cLine) : OpR X (compareOp .NotIn) (fun y x H Q => ∃ a o, x = .ref a ∧ DGet H a y o ∧ Q (.bl (!o.isSome)) H) := by
  intro pins s σ H x y v u Q I rx ry ⟨a, o, e, g, q⟩
  subst e
  obtain rfl : u = Value.ref a := ry
  exact d_notIn hu I g rx fun s3 I3 => ⟨.bl (!o.isSome), H, I3, rfl, q⟩
theorem o_inc (hu : X.A.units + 65 < cLine) : OpR X (compareOp .In) (rDc X.K A inD) := inB_use (g := id) hu op_in_sign (op_dIn (by omega)) op_in_seq (op_inD hu)
theorem o_ninc (hu : X.A.units + 65 < cLine) : OpR X (compareOp .NotIn) (rDc X.K A ninD) := inB_use (g := fun b => !b) hu op_notIn_sign (op_dNotIn (by omega)) op_notIn_seq (op_notInD hu)
theorem o_in (hu : X.A.units + 65 < cLine) : OpR X (compareOp .In) (rD X.K A inD) := fun pins s σ H x y v u Q I rx ry h => o_inc hu pins s σ H x y v u Q I rx ry (rD_c nf_in h)
theorem o_nin (hu : X.A.units + 65 < cLine) : OpR X (compareOp .NotIn) (rD X.K A ninD) := fun pins s σ H x y v u Q I rx ry h => o_ninc hu pins s σ H x y v u Q I rx ry (rD_c nf_nin h)
end DY

set_option Elab.async false
set_option linter.all false
set_option maxRecDepth 100000
set_option maxHeartbeats 4000000
namespace DY
open PySem L2 PySem.Spec PyProof.Rows
section
variable {K : PySem.W.Frag} {A : CT} {G G' G1 G2 H H' H1 H2 : Hp} {σ : L2.St} {ρ ρ1 ρ2 ρ' : Env} {Q : VK}
/-! ### looks at slots -/
theorem look_ok {i : Nat} {d : D} (h : look ρ i = .ok d) : ρ[i]? = some (.sh d) ∨ ρ[i]? = some (.ow d) := by
  unfold look at h
  split at h
  · cases h; rename_i q; exact .inl q
  · cases h; rename_i q; exact .inr q
  · cases h
theorem look_at {i : Nat} {d : D} (s : St K A σ G H ρ) (h : look ρ i = .ok d) : ∃ v, σ[i]? = some (some v) ∧ RepB K A G H v d := by
  rcases look_ok h with h | h
  · obtain ⟨v, e, r⟩ := s.slot i _ h
    exact ⟨v, getD_some e, .inl r⟩
  · obtain ⟨p, e, n, z⟩ := s.slot i _ h
    exact ⟨.ref p, getD_some e, .inr ⟨p, rfl, n, z⟩⟩
theorem bor_use {f : D → D → R Rv} {i : Nat} {mb : Ev} (nf : ∀ x y r, f x y = .ok r → r.2 = false) (h : liftE K A (eBor f i mb) σ H Q) : tVar i σ H fun x H1 => liftE K A mb σ H1 fun y H2 => rDb K A f x y H2 Q := by
  obtain ⟨G, ρ, r, ρ', s, e, k⟩ := h
  obtain ⟨d0, e0, e⟩ := bind_ok e
  obtain ⟨⟨d2, ρ1⟩, e1, e⟩ := bind_ok e
  obtain ⟨d1, e2, e⟩ := bind_ok e
  obtain ⟨⟨d, b⟩, e3, e⟩ := bind_ok e
  obtain rfl : b = false := nf _ _ _ e3
  cases e
  obtain ⟨v, hv, _⟩ := look_at s e0
  refine ⟨v, hv, use_val s e1 fun y G1 H1 n r2 => ?_⟩
  obtain ⟨v', hv', r1⟩ := look_at n.st e2
  rw [hv] at hv'
  cases hv'
  exact ⟨G1, d1, d2, d, n.st.sub, r1, r2, e3, fun w rw' => k w G1 H1 n (RepR.of rw')⟩
theorem borR_use {f : D → D → R Rv} {i : Nat} {ma : Ev} (nf : ∀ x y r, f x y = .ok r → r.2 = false) (h : liftE K A (eBorR f ma i) σ H Q) : liftE K A ma σ H fun x H1 => tVar i σ H1 fun y H2 => rDc K A f x y H2 Q := by
  obtain ⟨G, ρ, r, ρ', s, e, k⟩ := h
  obtain ⟨⟨d2, ρ1⟩, e1, e⟩ := bind_ok e
  obtain ⟨d1, e2, e⟩ := bind_ok e
  obtain ⟨⟨d, b⟩, e3, e⟩ := bind_ok e
  obtain rfl : b = false := nf _ _ _ e3
  cases e
  refine use_val s e1 fun y G1 H1 n r2 => ?_
  obtain ⟨v', hv', r1⟩ := look_at n.st e2
  exact ⟨v', hv', G1, d2, d1, d, n.st.sub, r2, r1, e3, fun w rw' => k w G1 H1 n (RepR.of rw')⟩
theorem bor1_use {f : D → R Rv} {i : Nat} (nf : ∀ x r, f x = .ok r → r.2 = false) (h : liftE K A (eBor1 f i) σ H Q) : tCons (tVar i) tNil σ H fun xs H2 => rDb1 K A f xs H2 Q := by
  obtain ⟨G, ρ, r, ρ', s, e, k⟩ := h
  obtain ⟨d1, e2, e⟩ := bind_ok e
  obtain ⟨⟨d, b⟩, e3, e⟩ := bind_ok e
  obtain rfl : b = false := nf _ _ e3
  cases e
  obtain ⟨v', hv', r1⟩ := look_at s e2
  exact ⟨v', hv', G, v', d1, d, rfl, s.sub, r1, e3, fun w rw' => k w G H (Nx.refl s) (RepR.of rw')⟩
end
section
variable {X : Cx} {A : CT} {a b : Expr} {ma mb : Ev} {pos pos' p : Pos} {x : Str}
theorem pd_borix {i : Nat} (hu : X.A.units + 1 < cLine) (h : PE X (.Name x pos') (tVar i)) (hb : PD A X b mb) (hs : PlainIx b) : PD A X (.Subscript (.Name x pos') b pos) (eBor ixD i mb) := PE.imp (pe_ix (o_ixb hu) h hb hs) fun _ _ _ => bor_use nf_ix
theorem pd_borin {i : Nat} (hu : X.A.units + 65 < cLine) (ha : PD A X a ma) (h : PE X (.Name x pos') (tVar i)) (hm : behindInMarks .In (.Name x pos') = false) : PD A X (.Compare a [.In] [.Name x pos'] pos) (eBorR inD ma i) := PE.imp (pe_cmpR (o_inc hu) ha h hm) fun _ _ _ => borR_use nf_in
theorem pd_bornin {i : Nat} (hu : X.A.units + 65 < cLine) (ha : PD A X a ma) (h : PE X (.Name x pos') (tVar i)) (hm : behindInMarks .NotIn (.Name x pos') = false) : PD A X (.Compare a [.NotIn] [.Name x pos'] pos) (eBorR ninD ma i) := PE.imp (pe_cmpR (o_ninc hu) ha h hm) fun _ _ _ => borR_use nf_nin
theorem pdt_borin {i : Nat} (hu : X.A.units + 65 < cLine) (ha : PD A X a ma) (h : PE X (.Name x pos') (tVar i)) (hm : behindInMarks .In (.Name x pos') = false) : PDT A X (.Compare a [.In] [.Name x pos'] pos) (eBorR inD ma i) := PT.imp (pt_cmpR (o_inc hu) ha h hm) fun _ _ _ h => borR_use nf_in (test_use h)
theorem pdt_bornin {i : Nat} (hu : X.A.units + 65 < cLine) (ha : PD A X a ma) (h : PE X (.Name x pos') (tVar i)) (hm : behindInMarks .NotIn (.Name x pos') = false) : PDT A X (.Compare a [.NotIn] [.Name x pos'] pos) (eBorR ninD ma i) := PT.imp (pt_cmpR (o_ninc hu) ha h hm) fun _ _ _ h => borR_use nf_nin (test_use h)
end
/-! ### slices -/
section
variable {K : PySem.W.Frag} {A : CT} {G H : Hp} {σ : L2.St} {Q : VK}
variable (K A) in
def liftO (m : Option Ev) : TO := fun σ H Q => ∃ G ρ l ρ', St K A σ G H ρ ∧ part m ρ = .ok (l, ρ') ∧ ∀ G' H', Nx K A σ G H ρ G' H' ρ' → Q l H'
abbrev PDO (A : CT) (X : Cx) (e : Option Expr) (m : Option Ev) : Prop := PO X e (liftO X.K A m)
theorem PO.imp {X : Cx} {e : Option Expr} {t t' : TO} (h : PO X e t) (k : ∀ σ H Q, t' σ H Q → t σ H Q) : PO X e t' := ⟨fun pins s σ H Q I q => h.run pins s σ H Q I (k σ H Q q)⟩
theorem pdo_none {X : Cx} : PDO A X none none := PO.imp po_none fun σ H Q h => by
  obtain ⟨G, ρ, l, ρ', s, e, k⟩ := h
  cases e
  exact k G H (Nx.refl s)
theorem pdo_some {X : Cx} {e : Expr} {m : Ev} (he : PD A X e m) : PDO A X (some e) (some m) := PO.imp (po_some he) fun σ H Q h => by
  obtain ⟨G, ρ, l, ρ', s, e, k⟩ := h
  obtain ⟨⟨x, ρ1⟩, e1, e⟩ := bind_ok e
  refine use_val s e1 fun v G1 H1 n r => ?_
  dsimp only at e
  split at e
  · cases e
    cases r
    exact ⟨_, rfl, k G1 H1 n⟩
  · cases e
variable (K A) in
def rSlD : V → Option Int → Option Int → Hp → VK → Prop := fun x lo hi H Q => rDu K A (sliceD lo hi) x H Q
theorem cutV_reps {vs : List V} {ds : List D} (r : Reps K A G vs ds) (lo hi : Option Int) : Reps K A G (cutV vs lo hi) (cut ds lo hi) := by
  unfold cutV cut
  rw [r.len]
  exact (r.drop _).take _
theorem cut_whole {α : Type} {xs : List α} {lo hi : Option Int} (h1 : DY.sIx xs.length 0 lo = 0) (h2 : DY.sIx xs.length xs.length hi = xs.length) : cut xs lo hi = xs := by
  unfold cut
  rw [h1, h2]; simp
def rSlF (K : PySem.W.Frag) : V → Option Int → Option Int → Hp → VK → Prop := fun x lo hi H Q => ∃ a xs, x = .ref a ∧ SqT K H a xs ∧
  (HT.sIx xs.length 0 lo = 0 ∧ HT.sIx xs.length xs.length hi = xs.length → Q (.ref a) H) ∧ (¬ (HT.sIx xs.length 0 lo = 0 ∧ HT.sIx xs.length xs.length hi = xs.length) → ∀ p o, o.dict = none → H p = none → Q (.ref p) (upd H p (.frz o (.tup (cutV xs lo hi)))))
theorem sl_tupF {X : Cx} : SlR X (rSlF X.K) := by
  intro pins s σ H x v vl vu lo hi sl Q I rx hs pl pu h
  obtain ⟨a, xs, rfl, hx, q1, q2⟩ := h
  cases rx
  obtain ⟨its, r, ht, hz⟩ := I.tuple hx
  have hlen : its.toArray.size = xs.length := by rw [List.size_toArray]; exact r.length.symm
  refine ⟨"tuple", _, PyProof.Rows.slot_tuple_getitem.lookup, ht.typeIs, ?_⟩
  by_cases hw : HT.sIx xs.length 0 lo = 0 ∧ HT.sIx xs.length xs.length hi = xs.length
  · exact getItem_tuple_whole ht hs pl pu (by rw [hlen]; exact hw) ⟨.ref a, H, I, rfl, q1 hw⟩
  · refine HT.getItem_tuple_cut ht hs pl pu (by rw [hlen]; exact hw) ?_ (by rw [hlen]; exact hz)
    rw [hlen]
    refine ⟨.ref s.heap.objs.size, _, I.laid (t' := s.toks) (o := .frz { cls := .type "tuple", data := .seq ((its.toArray.toList.drop (HT.sIx xs.length 0 lo)).take (HT.sIx xs.length xs.length hi - HT.sIx xs.length 0 lo)).toArray } (.tup (cutV xs lo hi))) (fun b ob q => Heap.get?_push_of_some _ q) (Nat.le_refl _) ?_, rfl, q2 hw _ _ rfl (I.hok.fresh (Nat.le_refl _))⟩
    exact ⟨Heap.get?_push_size _ rfl, Nat.le_trans (cutV_length xs lo hi) hz, _, (r.drop (HT.sIx xs.length 0 lo)).take (HT.sIx xs.length xs.length hi - HT.sIx xs.length 0 lo), IsTup.new _ _⟩
theorem o_slice {X : Cx} : SlR X (rSlD X.K A) := by
  intro pins s σ H x v vl vu lo hi sl Q I rx hs pl pu h
  obtain ⟨G, d, r, sb, r1, e, k⟩ := h
  unfold sliceD at e
  split at e
  · cases r1 with | lst h1 q1 =>
    cases e
    refine sl_list pins s σ H _ v vl vu lo hi sl Q I rx hs pl pu ⟨_, _, rfl, SqL.of (sb.lst h1), fun p n => ?_⟩
    obtain ⟨n0, rr⟩ := new_lst (K := X.K) (A := A) sb n (cutV_reps q1 lo hi)
    exact k _ _ _ n0 rr
  · cases r1 with | fls h1 q1 =>
    cases e
    refine sl_list pins s σ H _ v vl vu lo hi sl Q I rx hs pl pu ⟨_, _, rfl, sb.sqL h1, fun p n => ?_⟩
    obtain ⟨n0, rr⟩ := new_lst (K := X.K) (A := A) sb n (cutV_reps q1 lo hi)
    exact k _ _ _ n0 rr
  · obtain ⟨p, vs, rfl, h1, q1⟩ := r1.sqT sb
    cases e
    refine sl_tupF pins s σ H _ v vl vu lo hi sl Q I rx hs pl pu ⟨_, _, rfl, h1, fun z => ?_, fun _ p o ho n => ?_⟩
    · rw [q1.len] at z
      rw [cut_whole z.1 z.2] at k
      exact same_end sb r1 k
    · obtain ⟨n0, rr⟩ := new_tup (K := X.K) (A := A) sb n ho (cutV_reps q1 lo hi)
      exact k _ _ _ n0 (RepR.of rr)
  · cases r1
    rename_i l
    split at e
    · rename_i q
      cases e
      refine sl_str pins s σ H _ v vl vu lo hi sl Q I rx hs pl pu ⟨_, rfl, by rw [S_len]; exact szK q, ?_⟩
      have : cutS (S l) lo hi = S (cut l lo hi) := by
        unfold cutS cut
        rw [S_toList, S_len]; rfl
      rw [this]
      exact same_end sb (.str _) k
    · cases e
  · cases e
theorem slice_use {ma : Ev} {ml mh : Option Ev} (h : liftE K A (eSlice ma ml mh) σ H Q) : tSl (rSlD K A) (liftE K A ma) (liftO K A ml) (liftO K A mh) σ H Q := by
  obtain ⟨G, ρ, r, ρ', s, e, k⟩ := h
  obtain ⟨⟨d1, ρ1⟩, e1, e⟩ := bind_ok e
  obtain ⟨⟨l, ρ2⟩, e2, e⟩ := bind_ok e
  obtain ⟨⟨h, ρ3⟩, e3, e⟩ := bind_ok e
  obtain ⟨r', e4, e⟩ := bind_ok e
  cases e
  refine use_val s e1 fun x G1 H1 n1 r1 => ⟨G1, ρ1, l, ρ2, n1.st, e2, fun G2 H2 n2 => ⟨G2, ρ2, h, _, n2.st, e3, fun G3 H3 n3 => ?_⟩⟩
  exact ⟨G3, d1, r, n3.st.sub, (r1.mono n2.gs).mono n3.gs, e4, end_of ((n1.trans n2).trans n3) k⟩
theorem pd_slice {X : Cx} {a : Expr} {lo hi : Option Expr} {ma : Ev} {ml mh : Option Ev} {p2 pos : Pos} (ha : PD A X a ma) (hl : PDO A X lo ml) (hh : PDO A X hi mh) : PD A X (.Subscript a (.Slice lo hi none p2) pos) (eSlice ma ml mh) := PE.imp (pe_slice o_slice ha hl hh) fun _ _ _ => slice_use
end
/-! ### types -/
/-- what the written part shows of the classes -/
structure KD (K : PySem.W.Frag) (A : CT) : Prop where
  cf : ∀ c ∈ A.cs, SL.CF K (A.ad c)
  cc : ∀ c ∈ A.cs, ∀ c' ∈ A.cs, PySem.W.kitOne K (.ref (A.ad c)) (.ref (A.ad c')) = some (decide (c = c'))
  nn : ∀ c ∈ A.cs, ∀ c' ∈ A.cs, PySem.W.notFirst K (A.ad c) (.ref (A.ad c')) = true
def tyD (A : CT) : D → Option Value
  | .non => some (.type "NoneType")
  | .bl _ => some (.type "bool")
  | .int _ => some (.type "int")
  | .str _ => some (.type "str")
  | .tup _ => some (.type "tuple")
  | .lst _ => some (.type "list")
  | .dic _ => some (.type "dict")
  | .ins c _ => some (.ref (A.ad c))
  | _ => none
theorem rep_ty {K : PySem.W.Frag} {A : CT} {G H : Hp} {x : V} {d : D} {t : Value} (kd : KD K A) (sb : Sub G H) (r : Rep K A G x d) (e : tyD A d = some t) : TyX K H x t := by
  cases r with
  | non => cases e; exact .base .non
  | bl b => cases e; exact .base (.bl b)
  | int i => cases e; exact .base (.int i)
  | str l => cases e; exact .base (.str _)
  | lst h q => cases e; exact .base (.lst (sb.lst h))
  | tup n h q => cases e; exact .fTuple (sb.frt h)
  | emp a b c d => cases e; exact .kTuple a b
  | dic h q =>
    cases e
    rcases sb.dK h with h | ⟨o, h⟩
    · exact .base (.dK h)
    · exact .fDict h
  | ins h l c q => cases e; exact .base (.ins (sb.ins h) (kd.cf _ c).cl (kd.cf _ c).ha (kd.cf _ c).hn (kd.cf _ c).ht (kd.cf _ c).hm)
  | _ => cases e
theorem kit_D {K : PySem.W.Frag} {A : CT} {G : Hp} {x : V} {d : D} {t : BT} {b : Bool} (kd : KD K A) (r : Rep K A G x d) (e : isB1 t d = some b) : ∃ u, tyD A d = some u ∧ PySem.W.kitOne K u (.type t.nm) = some b := by
  cases r with
  | ins h l c q =>
    refine ⟨_, rfl, ?_⟩
    have kb := (kd.cf _ c).kb
    cases t <;> first | (cases e; done) | (cases e; exact kb _ (by simp [BT.nm]))
  | _ =>
    cases t <;> first | (cases e; done) | (cases e; exact ⟨_, rfl, kit_ty (by decide +kernel)⟩)
section
variable {X : Cx} {A : CT}
theorem o_isi (kd : KD X.K A) : CallR X (.builtin "isinstance") (rDn X.K A isiD) := by
  intro pins s σ H xs us Q I r h
  obtain ⟨G, ds, r0, sb, rs, e, k⟩ := h
  unfold isiD at e
  split at e
  · rename_i x t
    obtain ⟨v1, v2, rfl, r1, r2⟩ := rs.inv2
    cases r2
    split at e
    · rename_i b hb
      cases e
      obtain ⟨u, h1, h2⟩ := kit_D kd r1 hb
      exact call_isi pins s σ H _ us Q I r ⟨_, _, _, _, _, rfl, .ty _, rep_ty kd sb r1 h1, h2, same_end sb (.bl _) k⟩
    · cases e
  · rename_i c0 f0 c1
    obtain ⟨v1, v2, rfl, r1, r2⟩ := rs.inv2
    cases r2 with | cls _ hc' =>
    cases e
    have hc : c0 ∈ A.cs := by cases r1 with | ins h l c q => exact c
    exact call_isi pins s σ H _ us Q I r ⟨_, _, _, _, _, rfl, .own _, rep_ty kd sb r1 rfl, kd.cc _ hc _ hc', same_end sb (.bl _) k⟩
  · cases e
  · cases e
  · cases e
  · cases e
  · cases e
  · rename_i x c n1 n2 n3 n6 n4 n5
    obtain ⟨v1, v2, rfl, r1, r2⟩ := rs.inv2
    cases r2 with | cls _ hc' =>
    cases e
    have kt := (kd.cf _ hc').kt
    have fin : ∀ T, tyD A x = some (.type T) → T ∈ (["NoneType", "bool", "int", "str", "list", "tuple", "dict"] : List String) → wpAny (model X.prog X.w) X.A (call (.builtin "isinstance") us) (EP X pins σ Q) X.xe s := fun T h1 h2 =>
      call_isi pins s σ H _ us Q I r ⟨_, _, _, _, _, rfl, .own _, rep_ty kd sb r1 h1, kt T h2, same_end sb (.bl _) k⟩
    cases x with
    | non => exact fin _ rfl (by simp)
    | bl _ => exact fin _ rfl (by simp)
    | int _ => exact fin _ rfl (by simp)
    | str _ => exact fin _ rfl (by simp)
    | tup _ => exact fin _ rfl (by simp)
    | lst _ => exact fin _ rfl (by simp)
    | dic _ => exact fin _ rfl (by simp)
    | ins c' f => exact absurd rfl (n1 c' f)
    | fls l => exact absurd rfl (n2 l)
    | dct l => exact absurd rfl (n3 l)
    | kt l => exact absurd rfl (n6 l)
    | ty l => exact absurd rfl (n4 l)
    | cls l => exact absurd rfl (n5 l)
  · cases e
/-! len -/
theorem o_noN {f : Value} : CallR X f (rDb1 X.K A no1) := by
  intro pins s σ H xs us Q I r h
  obtain ⟨G, x, d1, d, rfl, sb, r1, e, k⟩ := h
  cases e
theorem call_lenD {kvs0 : True} : CallR X (.builtin "len") (fun xs H Q => ∃ a kvs, xs = [.ref a] ∧ Rd H a (.dK kvs) ∧ Q (.int kvs.length) H) := by
  intro pins s σ H xs us Q I r h
  obtain ⟨a, kvs, rfl, e, q⟩ := h
  obtain rfl := Vals.ref1 r
  exact d_len I e fun t s' I' => ⟨.int _, H, I', ⟨t, rfl⟩, q⟩
theorem o_lenb {own : D → R Rv} (ho : CallR X (.builtin "len") (rDb1 X.K A own)) : CallR X (.builtin "len") (rDb1 X.K A (lenB own)) := by
  intro pins s σ H xs us Q I r h
  obtain ⟨G, x, d1, d, rfl, sb, r1, e, k⟩ := h
  unfold lenB at e
  split at e
  · obtain rfl := r1.str
    split at e
    · rename_i q
      cases e
      refine call_len pins s σ H _ us Q I r ⟨_, _, rfl, ⟨by rw [S_len]; exact szK q, rfl⟩, ?_⟩
      rw [S_len]; exact k _ (.int _)
    · cases e
  · obtain ⟨p, vs, rfl, h1, q1⟩ := r1.lst sb
    cases e
    exact call_len pins s σ H _ us Q I r ⟨_, _, rfl, .inl ⟨vs, SqL.of h1, rfl⟩, by rw [q1.len]; exact k _ (.int _)⟩
  · obtain ⟨p, vs, rfl, h1, q1⟩ := r1.fls sb
    cases e
    exact call_len pins s σ H _ us Q I r ⟨_, _, rfl, .inl ⟨vs, h1, rfl⟩, by rw [q1.len]; exact k _ (.int _)⟩
  · obtain ⟨p, vs, rfl, h1, q1⟩ := r1.tup sb
    cases e
    exact call_len pins s σ H _ us Q I r ⟨_, _, rfl, .inr ⟨vs, h1, rfl⟩, by rw [q1.len]; exact k _ (.int _)⟩
  · obtain ⟨p, kvs, rfl, h1, q1⟩ := r1.dic sb
    cases e
    exact call_lenD (kvs0 := trivial) pins s σ H _ us Q I r ⟨p, kvs, rfl, h1, by rw [q1.len]; exact k _ (.int _)⟩
  · exact ho pins s σ H _ us Q I r ⟨G, x, d1, d, rfl, sb, r1, e, k⟩
theorem o_len {own : D → R Rv} (nf : ∀ x r, own x = .ok r → r.2 = false) (ho : CallR X (.builtin "len") (rDb1 X.K A own)) : CallR X (.builtin "len") (rDn X.K A (lenD own)) := by
  intro pins s σ H xs us Q I r h
  obtain ⟨G, ds, r0, sb, rs, e, k⟩ := h
  unfold lenD at e
  split at e
  · rename_i x
    obtain ⟨v1, rfl, r1⟩ := rs.inv1
    have hf : r0.2 = false := by
      unfold lenB at e
      split at e
      · split at e
        · cases e; rfl
        · cases e
      all_goals first | (cases e; rfl) | exact nf _ _ e
    obtain ⟨d, b⟩ := r0
    cases hf
    exact o_lenb ho pins s σ H _ us Q I r ⟨G, _, x, d, rfl, sb, .inl r1, e, fun v rv => k v G H (Nx0.refl sb) (RepR.of rv)⟩
  · cases e
theorem nf_len {own : D → R Rv} (nf : ∀ x r, own x = .ok r → r.2 = false) (x : D) (r : Rv) (e : lenB own x = .ok r) : r.2 = false := by
  unfold lenB at e
  split at e
  · split at e
    · cases e; rfl
    · cases e
  all_goals first | (cases e; rfl) | exact nf _ _ e
theorem nf_no1 (x : D) (r : Rv) (e : no1 x = .ok r) : r.2 = false := by cases e
/-! numbers -/
theorem o_abs : CallR X (.builtin "abs") (rDn X.K A absD) := by
  intro pins s σ H xs us Q I r h
  obtain ⟨G, ds, r0, sb, rs, e, k⟩ := h
  unfold absD at e
  split at e
  · obtain ⟨v1, rfl, r1⟩ := rs.inv1
    cases r1; cases e
    exact call_abs pins s σ H _ us Q I r ⟨_, rfl, same_end sb (.int _) k⟩
  · cases e
theorem o_max (hc : X.calm = true) : CallR X (.builtin "max") (rDn X.K A maxD) := by
  intro pins s σ H xs us Q I r h
  obtain ⟨G, ds, r0, sb, rs, e, k⟩ := h
  unfold maxD at e
  split at e
  · obtain ⟨v1, v2, rfl, r1, r2⟩ := rs.inv2
    cases r1; cases r2; cases e
    exact call_max2 hc pins s σ H _ us Q I r ⟨_, _, rfl, same_end sb (.int _) k⟩
  · cases e
theorem o_min (hc : X.calm = true) : CallR X (.builtin "min") (rDn X.K A minD) := by
  intro pins s σ H xs us Q I r h
  obtain ⟨G, ds, r0, sb, rs, e, k⟩ := h
  unfold minD at e
  split at e
  · obtain ⟨v1, v2, rfl, r1, r2⟩ := rs.inv2
    cases r1; cases r2; cases e
    exact call_min2 hc pins s σ H _ us Q I r ⟨_, _, rfl, same_end sb (.int _) k⟩
  · cases e
theorem o_int : CallR X (.type "int") (rDn X.K A intD) := by
  intro pins s σ H xs us Q I r h
  obtain ⟨G, ds, r0, sb, rs, e, k⟩ := h
  unfold intD at e
  split at e
  · obtain ⟨v1, rfl, r1⟩ := rs.inv1
    cases r1; cases e
    exact call_int1 pins s σ H _ us Q I r (.inl ⟨_, rfl, same_end sb (.int _) k⟩)
  · obtain ⟨v1, rfl, r1⟩ := rs.inv1
    cases r1; cases e
    exact call_int1 pins s σ H _ us Q I r (.inr ⟨_, rfl, same_end sb (.int _) k⟩)
  · cases e
/-! lists of one kind -/
theorem bools_rep {K : PySem.W.Frag} {G : Hp} {vs : List V} {ds : List D} {bs : List Bool} (r : Reps K A G vs ds) (e : boolsOf ds = .ok bs) : vs = bs.map V.bl := by
  induction ds generalizing vs bs with
  | nil => cases r; cases e; rfl
  | cons d ds ih =>
    cases r with | cons a b =>
    unfold boolsOf at e
    split at e
    · rename_i h; cases h
    · rename_i h; cases h
      obtain ⟨bs', e1, e⟩ := bind_ok e
      cases e
      cases a
      rw [ih b e1]; rfl
    · cases e
theorem ints_rep {K : PySem.W.Frag} {G : Hp} {vs : List V} {ds : List D} {bs : List Int} (r : Reps K A G vs ds) (e : intsOf ds = .ok bs) : vs = bs.map V.int := by
  induction ds generalizing vs bs with
  | nil => cases r; cases e; rfl
  | cons d ds ih =>
    cases r with | cons a b =>
    unfold intsOf at e
    split at e
    · rename_i h; cases h
    · rename_i h; cases h
      obtain ⟨bs', e1, e⟩ := bind_ok e
      cases e
      cases a
      rw [ih b e1]; rfl
    · cases e
theorem strs_rep {K : PySem.W.Frag} {G : Hp} {vs : List V} {ds : List D} {bs : List (List Nat)} (r : Reps K A G vs ds) (e : strsOf ds = .ok bs) : vs = (bs.map S).map V.str := by
  induction ds generalizing vs bs with
  | nil => cases r; cases e; rfl
  | cons d ds ih =>
    cases r with | cons a b =>
    unfold strsOf at e
    split at e
    · rename_i h; cases h
    · rename_i h; cases h
      obtain ⟨bs', e1, e⟩ := bind_ok e
      cases e
      cases a
      rw [ih b e1]; rfl
    · cases e
theorem reps_strs {K : PySem.W.Frag} {G : Hp} : ∀ (l : List (List Nat)), Reps K A G ((l.map S).map V.str) (l.map D.str)
  | [] => .nil
  | x :: xs => .cons (.str x) (reps_strs xs)
theorem o_all (hc : X.calm = true) : CallR X (.builtin "all") (rDn X.K A allD) := by
  intro pins s σ H xs us Q I r h
  obtain ⟨G, ds, r0, sb, rs, e, k⟩ := h
  unfold allD at e
  split at e
  · obtain ⟨v1, rfl, r1⟩ := rs.inv1
    cases r1 with | lst h1 q1 =>
    obtain ⟨bs, e1, e⟩ := bind_ok e
    cases e
    have := bools_rep q1 e1
    subst this
    exact cr_all hc pins s σ H _ us Q I r ⟨_, _, rfl, SqL.of (sb.lst h1), same_end sb (.bl _) k⟩
  · cases e
theorem o_any (hc : X.calm = true) : CallR X (.builtin "any") (rDn X.K A anyD) := by
  intro pins s σ H xs us Q I r h
  obtain ⟨G, ds, r0, sb, rs, e, k⟩ := h
  unfold anyD at e
  split at e
  · obtain ⟨v1, rfl, r1⟩ := rs.inv1
    cases r1 with | lst h1 q1 =>
    obtain ⟨bs, e1, e⟩ := bind_ok e
    cases e
    have := bools_rep q1 e1
    subst this
    exact cr_any hc pins s σ H _ us Q I r ⟨_, _, rfl, SqL.of (sb.lst h1), same_end sb (.bl _) k⟩
  · cases e
theorem o_sum (hc : X.calm = true) : CallR X (.builtin "sum") (rDn X.K A sumD) := by
  intro pins s σ H xs us Q I r h
  obtain ⟨G, ds, r0, sb, rs, e, k⟩ := h
  unfold sumD at e
  split at e
  · obtain ⟨v1, rfl, r1⟩ := rs.inv1
    cases r1 with | lst h1 q1 =>
    obtain ⟨bs, e1, e⟩ := bind_ok e
    cases e
    have := ints_rep q1 e1
    subst this
    exact cr_sum hc pins s σ H _ us Q I r ⟨_, _, rfl, SqL.of (sb.lst h1), same_end sb (.int _) k⟩
  · cases e
/-! sorted -/
theorem ltN_cps : ∀ a b : List Nat, ltN a b = ltCps a b
  | [], [] => rfl
  | [], _ :: _ => rfl
  | _ :: _, [] => rfl
  | a :: r, b :: t => by
    unfold ltN ltCps
    rw [ltN_cps r t]
    congr 2
theorem ltN_irrefl : ∀ a : List Nat, ltN a a = false
  | [] => rfl
  | a :: r => by unfold ltN; rw [ltN_irrefl r]; simp
theorem ltN_asymm : ∀ {a b : List Nat}, ltN a b = true → ltN b a = false
  | [], [], h => by cases h
  | [], _ :: _, _ => rfl
  | _ :: _, [], h => by cases h
  | a :: r, b :: t, h => by
    unfold ltN at *
    simp at *
    refine ⟨by omega, fun e => ?_⟩
    subst e
    rcases h with h | h
    · omega
    · exact ltN_asymm h.2
theorem ltN_total : ∀ a b : List Nat, ltN a b = false → ltN b a = false → a = b
  | [], [], _, _ => rfl
  | [], _ :: _, h, _ => by cases h
  | _ :: _, [], _, h => by cases h
  | a :: r, b :: t, h1, h2 => by
    unfold ltN at h1 h2
    simp at h1 h2
    have e : a = b := by omega
    subst e
    rw [ltN_total r t (h1.2 rfl) (h2.2 rfl)]
theorem ltN_trans : ∀ a b c : List Nat, ltN b a = false → ltN c b = false → ltN c a = false
  | [], b, [], _, _ => by rfl
  | [], [], _ :: _, _, h => by rfl
  | [], _ :: _, _ :: _, _, _ => by rfl
  | a :: r, [], c, h, _ => by cases h
  | a :: r, b :: t, [], _, h => by cases h
  | a :: r, b :: t, c :: u, h1, h2 => by
    unfold ltN at *
    simp at *
    refine ⟨by omega, fun e => ?_⟩
    subst e
    have e2 : b = c := by omega
    subst e2
    exact ltN_trans r t u (h1.2 rfl) (h2.2 rfl)
abbrev leS (a b : List Nat) : Prop := ltN b a = false
theorem insS_perm (x : List Nat) : ∀ l, (insS x l).Perm (x :: l)
  | [] => .refl _
  | y :: ys => by
    unfold insS
    split
    · exact ((insS_perm x ys).cons y).trans (.swap ..)
    · exact .refl _
theorem sortS_perm : ∀ l, (sortS l).Perm l
  | [] => .refl _
  | x :: xs => (insS_perm x _).trans ((sortS_perm xs).cons x)
theorem insS_pw (x : List Nat) : ∀ l, l.Pairwise leS → (insS x l).Pairwise leS
  | [], _ => List.pairwise_singleton ..
  | y :: ys, h => by
    have hp := List.pairwise_cons.mp h
    unfold insS
    split
    · rename_i q
      refine List.pairwise_cons.mpr ⟨fun z hz => ?_, insS_pw x ys hp.2⟩
      rcases List.mem_cons.mp ((insS_perm x ys).mem_iff.mp hz) with rfl | hz
      · exact ltN_asymm q
      · exact hp.1 z hz
    · rename_i q
      have q : ltN y x = false := by simpa using q
      refine List.pairwise_cons.mpr ⟨fun z hz => ?_, h⟩
      rcases List.mem_cons.mp hz with rfl | hz
      · exact q
      · exact ltN_trans x y z q (hp.1 z hz)
theorem sortS_pw : ∀ l, (sortS l).Pairwise leS
  | [] => .nil
  | x :: xs => insS_pw x _ (sortS_pw xs)
theorem risingS_pw : ∀ (l : List (List Nat)) (x : List Nat), risingS (S x) (l.map S) = true → (x :: l).Pairwise leS
  | [], x, _ => List.pairwise_singleton ..
  | y :: l, x, h => by
    rw [List.map_cons] at h
    unfold risingS at h
    rw [S_toList, S_toList, Bool.and_eq_true, ← ltN_cps] at h
    have ih := risingS_pw l y h.2
    have h1 : leS x y := by simpa using h.1
    refine List.pairwise_cons.mpr ⟨fun z hz => ?_, ih⟩
    rcases List.mem_cons.mp hz with rfl | hz
    · exact h1
    · exact ltN_trans x y z h1 ((List.pairwise_cons.mp ih).1 z hz)
theorem perm_S {l' : List Str} {l : List (List Nat)} (h : l'.Perm (l.map S)) : ∃ l2 : List (List Nat), l' = l2.map S ∧ l2.Perm l := by
  refine ⟨l'.map fun s => s.cps.toList, ?_, ?_⟩
  · rw [List.map_map]
    conv => lhs; rw [← List.map_id l']
    exact List.map_congr_left fun s _ => (S_cps s).symm
  · have := h.map fun s : Str => s.cps.toList
    rw [List.map_map] at this
    have e : (l.map ((fun s : Str => s.cps.toList) ∘ S)) = l := by
      conv => rhs; rw [← List.map_id l]
      exact List.map_congr_left fun s _ => S_toList s
    rw [e] at this
    exact this
theorem o_sorted : CallR X (.builtin "sorted") (rDn X.K A sortedD) := by
  intro pins s σ H xs us Q I r h
  obtain ⟨G, ds, r0, sb, rs, e, k⟩ := h
  unfold sortedD at e
  split at e
  · obtain ⟨v1, rfl, r1⟩ := rs.inv1
    cases r1 with | lst h1 q1 =>
    obtain ⟨bs, e1, e⟩ := bind_ok e
    split at e
    · rename_i q
      cases e
      have := strs_rep q1 e1
      subst this
      refine cr_sortedS pins s σ H _ us Q I r ⟨_, _, rfl, SqL.of (sb.lst h1), by rw [List.length_map]; exact q, fun ys p hp hs n => ?_⟩
      obtain ⟨l2, rfl, h2⟩ := perm_S hp
      have hpw : l2.Pairwise leS := by
        cases l2 with
        | nil => exact .nil
        | cons x l2 => exact risingS_pw l2 x hs
      have e3 : l2 = sortS bs := List.Perm.eq_of_pairwise (le := leS) (fun a b _ _ h1 h2 => ltN_total a b h2 h1) hpw (sortS_pw bs) (h2.trans (sortS_perm bs).symm)
      subst e3
      obtain ⟨n0, rr⟩ := new_lst (K := X.K) (A := A) sb n (reps_strs (sortS bs))
      exact k _ _ _ n0 rr
    · cases e
  · cases e
end
end DY

set_option Elab.async false
set_option linter.all false
set_option maxRecDepth 100000
set_option maxHeartbeats 4000000
namespace DY
open PySem L2 PySem.Spec PyProof.Rows
section
variable {X : Cx} {A : CT}
/-! ### tuple, list, dict -/
theorem call_tupleF : CallR X (.type "tuple") (fun xs H Q => ∃ p ys, xs = [.ref p] ∧ SqL X.K H p ys ∧ ∀ l o, o.dict = none → H l = none → Q (.ref l) (upd H l (.frz o (.tup ys)))) := by
  intro pins s σ H xs us Q I r h
  obtain ⟨p, ys, rfl, hq, q⟩ := h
  obtain ⟨u, rfl, rx⟩ := vals1 r
  cases rx
  obtain ⟨its, r', pl, hz⟩ := I.list hq
  have hlen := r'.length
  refine call_tuple_list pl.isList (fun h' kp => ?_) (by simp only [List.size_toArray] <;> omega)
  have I1 : Inv X pins σ H { s with heap := h' } := I.kept (t' := s.toks) kp
  have I2 : Inv X pins σ (upd H h'.objs.size (.frz { cls := .type "tuple", data := .seq its.toArray } (.tup ys))) { s with heap := h'.push { cls := .type "tuple", data := .seq its.toArray } } :=
    I1.laid (t' := s.toks) (fun b o e => Heap.get?_push_of_some _ e) (Nat.le_refl _) (show ObjOk X.prog X.w _ _ _ (.frz _ (.tup ys)) from ⟨Heap.get?_push_size _ rfl, hz, its, r', IsTup.new _ _⟩)
  exact ⟨.ref h'.objs.size, _, I2, rfl, q _ _ rfl (I1.hok.fresh (Nat.le_refl _))⟩
theorem o_tuple : CallR X (.type "tuple") (rDn X.K A tupleD) := by
  intro pins s σ H xs us Q I r h
  obtain ⟨G, ds, r0, sb, rs, e, k⟩ := h
  unfold tupleD at e
  split at e
  · obtain ⟨v1, rfl, r1⟩ := rs.inv1
    cases r1 with | lst h1 q1 =>
    cases e
    refine call_tupleF pins s σ H _ us Q I r ⟨_, _, rfl, SqL.of (sb.lst h1), fun p o ho n => ?_⟩
    obtain ⟨n0, rr⟩ := new_tup (K := X.K) (A := A) sb n ho q1
    exact k _ _ _ n0 (RepR.of rr)
  · obtain ⟨v1, rfl, r1⟩ := rs.inv1
    obtain ⟨p, vs, rfl, h1, q1⟩ := r1.sqT sb
    cases e
    exact call_tuple_of pins s σ H _ us Q I r ⟨_, _, rfl, .inr ⟨h1, same_end sb r1 k⟩⟩
  · cases e
theorem reps_keys {K : PySem.W.Frag} {G : Hp} : ∀ {kvs : List (Key × V)} {ds : List (Ky × D)}, RepK K A G kvs ds → Reps K A G (kvs.map fun kv => kV kv.1) (ds.map fun kv => kyD kv.1)
  | _, _, .nil => .nil
  | _, _, .cons (k := k) a b => .cons (kyD_rep k) (reps_keys b)
theorem o_list (hc : X.calm = true) : CallR X (.type "list") (rDn X.K A listD) := by
  intro pins s σ H xs us Q I r h
  obtain ⟨G, ds, r0, sb, rs, e, k⟩ := h
  unfold listD at e
  split at e
  · obtain ⟨v1, rfl, r1⟩ := rs.inv1
    cases r1 with | lst h1 q1 =>
    cases e
    refine call_list_of pins s σ H _ us Q I r ⟨_, _, rfl, .inl (SqL.of (sb.lst h1)), fun p n => ?_⟩
    obtain ⟨n0, rr⟩ := new_lst (K := X.K) (A := A) sb n q1
    exact k _ _ _ n0 rr
  · obtain ⟨v1, rfl, r1⟩ := rs.inv1
    obtain ⟨p, vs, rfl, h1, q1⟩ := r1.sqT sb
    cases e
    refine call_list_of pins s σ H _ us Q I r ⟨_, _, rfl, .inr h1, fun p n => ?_⟩
    obtain ⟨n0, rr⟩ := new_lst (K := X.K) (A := A) sb n q1
    exact k _ _ _ n0 rr
  · obtain ⟨v1, rfl, r1⟩ := rs.inv1
    cases r1 with | dic h1 q1 =>
    cases e
    refine call_listD hc pins s σ H _ us Q I r ⟨_, _, rfl, sb.dK h1, fun p n => ?_⟩
    obtain ⟨n0, rr⟩ := new_lst (K := X.K) (A := A) sb n (reps_keys q1)
    exact k _ _ _ n0 rr
  · cases e
/-- dict(t), t a tuple of pairs -/
theorem call_dictF (hcalm : X.calm = true) : CallR X (.type "dict") (fun xs H Q => ∃ (a : Addr) (ps : List Addr) (kvs : List (Key × V)), xs = [.ref a] ∧ ((∃ o, o.dict = none ∧ H a = some (.frz o (.tup (ps.map V.ref)))) ∨ (ps = [] ∧ ∃ o n, X.K.lookup a = some o ∧ o.cls = .type "tuple" ∧ o.dict = none ∧ o.data = .seq #[] n)) ∧ Paired (fun p kv => SqT X.K H p [kV kv.1, kv.2]) ps kvs ∧
    ∀ p, H p = none → Q (.ref p) (upd H p (.dK (mergeK [] kvs)))) := by
  intro pins s σ H xs us Q I r q
  obtain ⟨a, ps, kvs, ex, hq, hp, q⟩ := q
  subst ex
  obtain ⟨u, eu, rx⟩ := vals1 r
  subst eu
  cases rx
  obtain ⟨its, hz, ei, pl⟩ : ∃ its : List Value, its.length ≤ sizeLine ∧ its = ps.map Value.ref ∧ PlainSeq "tuple" s.heap a its.toArray := by
    rcases hq with ⟨o, hd, hq⟩ | ⟨rfl, o, n, h1, h2, h3, h4⟩
    · obtain ⟨e1, z, its, rv, o', e2, c, n, dt⟩ := I.hok a _ hq
      rw [e1] at e2
      cases e2
      exact ⟨its, by rw [← rv.length]; exact z, refs_at rv, o, n, e1, c, hd, dt⟩
    · exact ⟨[], Nat.zero_le _, rfl, o, n, I.kIn _ _ h1, h2, h3, h4⟩
  subst ei
  obtain ⟨prs, rel, hl, hpr⟩ := pairs_of I hp
  rw [List.length_map] at hz
  have key : ∀ (j : Nat) (q' : Key × Value), prs[j]? = some q' → ∃ (b : Addr) (u : Value), ps[j]? = some b ∧ IsTup s.heap b #[u, q'.2] ∧ keyIs q'.1 u = true := hpr
  classical
  have uk : ∃ ks : List Value, ks.length = prs.length ∧ ∀ (j : Nat) (q' : Key × Value), prs[j]? = some q' → ∃ u, ks[j]? = some u ∧ ∃ b, ps[j]? = some b ∧ IsTup s.heap b #[u, q'.2] ∧ keyIs q'.1 u = true := by
    refine ⟨(List.range prs.length).map fun j => match prs[j]? with | some q' => (if h : ∃ u : Value, ∃ b, ps[j]? = some b ∧ IsTup s.heap b #[u, q'.2] ∧ keyIs q'.1 u = true then h.choose else .none) | none => .none, by simp, fun j q' e => ?_⟩
    have hj := (List.getElem?_eq_some_iff.mp e).1
    have ex : ∃ u : Value, ∃ b, ps[j]? = some b ∧ IsTup s.heap b #[u, q'.2] ∧ keyIs q'.1 u = true := by
      obtain ⟨b, u, h1, h2, h3⟩ := hpr j q' e
      exact ⟨u, b, h1, h2, h3⟩
    refine ⟨ex.choose, ?_, ex.choose_spec⟩
    rw [List.getElem?_map, List.getElem?_range hj, Option.map_some, e]
    simp only [dif_pos ex]
  obtain ⟨ks, kl, kq⟩ := uk
  have hzip : ∀ j k v, (ks.zip (prs.map Prod.snd))[j]? = some (k, v) → ∃ q' : Key × Value, prs[j]? = some q' ∧ q'.2 = v ∧ ks[j]? = some k := fun j k v e => by
    rw [List.getElem?_zip_eq_some] at e
    obtain ⟨e1, e2⟩ := e
    rw [List.getElem?_map] at e2
    obtain ⟨q', h1, h2⟩ := Option.map_eq_some_iff.mp e2
    exact ⟨q', h1, h2, e1⟩
  have zl : (ks.zip (prs.map Prod.snd)).length = ps.length := by rw [List.length_zip, List.length_map, kl, hl]; omega
  refine PySem.call_dict_pairs (knd := mixKind X.prog X.w) (kvs := prs) (PairArg.tuple (prog := X.prog) (w := X.w) a (ps.map Value.ref).toArray (fun j => ps.getD j 0) (ks.zip (prs.map Prod.snd))) (I.ok.hd hcalm) ⟨pl, by simp [zl], fun j k v e => ?_⟩ ⟨by rw [zl, hl], fun i k v e => ?_⟩ (by rw [zl]; exact hz) fun h' tk hd' kp => ?_
  · obtain ⟨q', h1, h2, h3⟩ := hzip j k v e
    obtain ⟨u, h4, b, h5, h6, h7⟩ := kq j q' h1
    rw [h3] at h4
    cases h4
    subst h2
    refine ⟨?_, .inl ?_⟩
    · show _ = some (Value.ref (ps.getD j 0))
      rw [List.getElem?_toArray, List.getElem?_map, h5, List.getD_eq_getElem?_getD, h5]; rfl
    · show s.heap.IsTuple (ps.getD j 0) _
      rw [List.getD_eq_getElem?_getD, h5]; exact h6
  · obtain ⟨q', h1, h2, h3⟩ := hzip i k v e
    obtain ⟨u, h4, b, h5, h6, h7⟩ := kq i q' h1
    rw [h3] at h4
    cases h4
    subst h2
    exact ⟨q'.1, h1, h7⟩
  · have hm : (s.heap.objs.size == sysModules) = false := beq_eq_false_iff_ne.mpr (Nat.ne_of_gt I.big)
    have hlen : (mergeK [] kvs).length ≤ sizeLine := by
      refine Nat.le_trans (length_mergeK kvs []) ?_
      rw [List.length_nil, Nat.zero_add, rel.length, hl]
      exact hz
    exact ⟨.ref s.heap.objs.size, upd H s.heap.objs.size (.dK (mergeK [] kvs)), I.laid (t' := tk) (fun b o e => kp b o (by simp) e) (Nat.le_refl _) (show ObjOk X.prog X.w _ _ _ (.dK (mergeK [] kvs)) from ⟨hlen, hm, merged [] prs, KV.merge rel .nil, hd'⟩), rfl, q _ (I.hok.fresh (Nat.le_refl _))⟩
theorem pairs_rep {K : PySem.W.Frag} {G H : Hp} (sb : Sub G H) : ∀ {ds : List D} {vs : List V} {kvs : List (Ky × D)}, Reps K A G vs ds → pairs ds = .ok kvs → ∃ (ps : List Addr) (ks : List (Key × V)), vs = ps.map V.ref ∧ Paired (fun p kv => SqT K H p [kV kv.1, kv.2]) ps ks ∧ RepK K A G ks kvs
  | [], _, _, r, e => by cases r; cases e; exact ⟨[], [], rfl, .nil, .nil⟩
  | d :: ds, _, _, r, e => by
    cases r with | cons a b =>
    unfold pairs at e
    split at e
    · rename_i h; cases h
    · rename_i h; cases h
      obtain ⟨q, e1, e⟩ := bind_ok e
      obtain ⟨r', e2, e⟩ := bind_ok e
      cases e
      obtain ⟨ps, ks, rfl, h1, h2⟩ := pairs_rep sb b e2
      obtain ⟨p, vs, rfl, h3, q3⟩ := a.sqT sb
      obtain ⟨v1, v2, rfl, r1, r2⟩ := q3.inv2
      obtain ⟨rfl, _⟩ := keyOf_rep r1 e1
      exact ⟨p :: ps, (kK q, v2) :: ks, rfl, .cons h3 h1, .cons r2 h2⟩
    · cases e
theorem merge_rep {K : PySem.W.Frag} {G : Hp} {ks : List (Key × V)} {kvs : List (Ky × D)} {a : List (Key × V)} {b : List (Ky × D)} (h : RepK K A G ks kvs) (h' : RepK K A G a b) : RepK K A G (mergeK a ks) (merge b kvs) := by
  induction kvs generalizing ks a b with
  | nil => cases h; exact h'
  | cons p kvs ih =>
    cases h with
    | @cons k v d vs _ r t =>
      show RepK K A G (mergeK (putK a (kK k) v) vs) (merge (dput b k d) kvs)
      exact ih t (h'.put k r)
theorem new_dic {K : PySem.W.Frag} {G H : Hp} {p : Addr} {kvs : List (Key × V)} {ds : List (Ky × D)} (s : Sub G H) (n : H p = none) (r : RepK K A G kvs ds) : Nx0 G H G (upd H p (.dK kvs)) ∧ RepN K A H G (upd H p (.dK kvs)) (.ref p) (.dic ds, true) :=
  ⟨(upd_nx0 s n).1, RepR.new (upd_nx0 (o := .dK kvs) s n).2 ⟨kvs, upd_same, r⟩ id n⟩
theorem new_dct {K : PySem.W.Frag} {G H : Hp} {p : Addr} {kvs : List (List Key × V)} {ds : List (List Ky × D)} (s : Sub G H) (n : H p = none) (r : RepT K A G kvs ds) : Nx0 G H G (upd H p (.dT kvs)) ∧ RepN K A H G (upd H p (.dT kvs)) (.ref p) (.dct ds, true) :=
  ⟨(upd_nx0 s n).1, RepR.new (upd_nx0 (o := .dT kvs) s n).2 ⟨kvs, upd_same, r⟩ id n⟩
theorem o_dict (hc : X.calm = true) : CallR X (.type "dict") (rDn X.K A dictD) := by
  intro pins s σ H xs us Q I r h
  obtain ⟨G, ds, r0, sb, rs, e, k⟩ := h
  unfold dictD at e
  split at e
  · obtain ⟨v1, rfl, r1⟩ := rs.inv1
    cases r1 with | dic h1 q1 =>
    cases e
    refine call_dictD pins s σ H _ us Q I r ⟨_, _, rfl, sb.dK h1, fun p n => ?_⟩
    obtain ⟨n0, rr⟩ := new_dic (K := X.K) (A := A) sb n q1
    exact k _ _ _ n0 rr
  · obtain ⟨v1, rfl, r1⟩ := rs.inv1
    obtain ⟨kvs, e1, e⟩ := bind_ok e
    split at e
    · cases e
      cases r1 with
      | tup nd h1 q1 =>
        obtain ⟨ps, ks, rfl, h2, h3⟩ := pairs_rep sb q1 e1
        refine call_dictF hc pins s σ H _ us Q I r ⟨_, ps, ks, rfl, .inl ⟨_, nd, sb.frt h1⟩, h2, fun p n => ?_⟩
        obtain ⟨n0, rr⟩ := new_dic (K := X.K) (A := A) sb n (merge_rep h3 .nil)
        exact k _ _ _ n0 rr
      | emp a b c d =>
        cases e1
        refine call_dictF hc pins s σ H _ us Q I r ⟨_, [], [], rfl, .inr ⟨rfl, _, _, a, b, c, d⟩, .nil, fun p n => ?_⟩
        obtain ⟨n0, rr⟩ := new_dic (K := X.K) (A := A) sb n (RepK.nil (K := X.K) (A := A) (G := G))
        exact k _ _ _ n0 rr
    · cases e
  · obtain ⟨v1, rfl, r1⟩ := rs.inv1
    cases r1 with | lst h1 q1 =>
    obtain ⟨kvs, e1, e⟩ := bind_ok e
    split at e
    · cases e
      obtain ⟨ps, ks, rfl, h2, h3⟩ := pairs_rep sb q1 e1
      refine call_dictP hc pins s σ H _ us Q I r ⟨_, ps, ks, rfl, SqL.of (sb.lst h1), h2, fun p n => ?_⟩
      obtain ⟨n0, rr⟩ := new_dic (K := X.K) (A := A) sb n (merge_rep h3 .nil)
      exact k _ _ _ n0 rr
    · cases e
  · cases e
/-! ### str -/
theorem figs_eq (i : Int) : (toString i : Str) = S (figs i) := by
  show Str.ofString (toString i) = S (figs i)
  rw [Str.ofString_eq_toList]
  rfl
theorem o_str {own : D → R Rv} (ho : CallR X (.type "str") (fun xs H Q => ∃ x, xs = [x] ∧ rDu X.K A own x H Q)) : CallR X (.type "str") (rDn X.K A (strD own)) := by
  intro pins s σ H xs us Q I r h
  obtain ⟨G, ds, r0, sb, rs, e, k⟩ := h
  unfold strD at e
  split at e
  · obtain ⟨v1, rfl, r1⟩ := rs.inv1
    cases r1
    split at e
    · rename_i q
      cases e
      exact call_str_int pins s σ H _ us Q I r ⟨_, rfl, q, by rw [figs_eq]; exact same_end sb (.str _) k⟩
    · cases e
  · obtain ⟨v1, rfl, r1⟩ := rs.inv1
    cases r1
    cases e
    exact SL.call_strSX pins s σ H _ us Q I r ⟨_, rfl, same_end sb (.str _) k⟩
  · obtain ⟨v1, rfl, r1⟩ := rs.inv1
    exact ho pins s σ H _ us Q I r ⟨v1, rfl, G, _, r0, sb, r1, e, k⟩
  · cases e
theorem o_noS : CallR X (.type "str") (fun xs H Q => ∃ x, xs = [x] ∧ rDu X.K A no1 x H Q) := by
  intro pins s σ H xs us Q I r h
  obtain ⟨x, rfl, G, d, r0, sb, r1, e, k⟩ := h
  cases e
end
end DY

set_option Elab.async false
set_option linter.all false
set_option maxRecDepth 100000
set_option maxHeartbeats 4000000
/-! ### rules for statements -/
namespace DY
open PySem L2 PySem.Spec PyProof.Rows
/-- a def's entry: what is shared, the heap, the lent object -/
structure Bs where
  G : Hp
  H : Hp
  O : Option Addr
structure StF (K : PySem.W.Frag) (A : CT) (j : Option Nat) (B : Bs) (σ : L2.St) (G H : Hp) (ρ : Env) : Prop where
  st : St K A σ G H ρ
  ext : Ext (fun p => B.O = some p) B.G B.H G H
  own : ∀ i p, Own σ ρ i p → (j = some i → B.O = some p) ∧ (j ≠ some i → B.H p = none)
section
variable {K : PySem.W.Frag} {A : CT} {j : Option Nat} {B : Bs} {G G' G1 H H' H1 : Hp} {σ σ' : L2.St} {ρ ρ1 ρ2 ρ' : Env} {D : Ends}
theorem StF.step (s : StF K A j B σ G H ρ) (n : Nx K A σ G H ρ G' H' ρ') : StF K A j B σ G' H' ρ' := by
  refine ⟨n.st, s.ext.trans n.ext fun p ⟨i, z⟩ => ?_, fun i p z => s.own i p (n.own i p z)⟩
  by_cases e : j = some i
  · exact .inl ((s.own i p z).1 e)
  · exact .inr ((s.own i p z).2 e)
/-- what is new here is new since the entry -/
theorem StF.fresh (s : StF K A j B σ G H ρ) {p : Addr} (h : H p = none) : B.H p = none := by
  cases q : B.H p with
  | none => rfl
  | some o => exact absurd h (s.ext.there p (by rw [q]; exact fun x => nomatch x))
variable (K A j B D) in
def SOut (o : Out) (ρ' : Env) : Prop :=
  match o with
  | .nx => ∀ σ' G' H', StF K A j B σ' G' H' ρ' → D.nx σ' H'
  | .bk => ∀ σ' G' H', StF K A j B σ' G' H' ρ' → D.bk σ' H'
  | .ct => ∀ σ' G' H', StF K A j B σ' G' H' ρ' → D.ct σ' H'
  | .rt r => ∀ v σ' G' H', StF K A j B σ' G' H' ρ' → RepR K A (OwnS σ' ρ') B.H G' H' v r → D.rt v H'
variable (K A j) in
def liftS (m : Sv) : TS := fun D σ H => ∃ B G ρ o ρ', StF K A j B σ G H ρ ∧ m ρ = .ok (o, ρ') ∧ SOut K A j B D o ρ'
end
abbrev PDS (A : CT) (j : Option Nat) (X : Cx) (s : Stmt) (m : Sv) : Prop := PS X s (liftS X.K A j m)
abbrev PDSs (A : CT) (j : Option Nat) (X : Cx) (s : List Stmt) (m : Sv) : Prop := PSs X s (liftS X.K A j m)
section
variable {X : Cx} {A : CT} {j : Option Nat} {st : Stmt} {rest : List Stmt} {m m' : Sv} {e a b c : Expr} {me ma mb mc : Ev} {pos pos' : Pos}
theorem pdss_nil : PDSs A j X [] sNext := PSs.imp pss_nil fun D σ H h => by
  obtain ⟨B, G, ρ, o, ρ', s, e, k⟩ := h
  cases e
  exact k σ G H s
theorem pdss_one (h : PDS A j X st m) : PDSs A j X [st] m := pss_one h
theorem pdss_cons (h1 : PDS A j X st m) (h2 : PDSs A j X rest m') : PDSs A j X (st :: rest) (sSeq m m') := PSs.imp (pss_cons h1 h2) fun D σ H h => by
  obtain ⟨B, G, ρ, o, ρ', s, e, k⟩ := h
  obtain ⟨⟨o1, ρ1⟩, e1, e⟩ := bind_ok e
  refine ⟨B, G, ρ, o1, ρ1, s, e1, ?_⟩
  cases o1 with
  | nx => exact fun σ' G' H' s' => ⟨B, G', ρ1, o, ρ', s', e, k⟩
  | bk => cases e; exact k
  | ct => cases e; exact k
  | rt r => cases e; exact k
theorem pds_pass : PDS A j X (.Pass pos) sNext := PS.imp ps_pass fun D σ H h => by
  obtain ⟨B, G, ρ, o, ρ', s, e, k⟩ := h
  cases e
  exact k σ G H s
theorem pds_break : PDS A j X (.Break pos) sBreak := PS.imp ps_break fun D σ H h => by
  obtain ⟨B, G, ρ, o, ρ', s, e, k⟩ := h
  cases e
  exact k σ G H s
theorem pds_cont : PDS A j X (.Continue pos) sCont := PS.imp ps_continue fun D σ H h => by
  obtain ⟨B, G, ρ, o, ρ', s, e, k⟩ := h
  cases e
  exact k σ G H s
theorem pds_doc {x jj p p'} : PDS A j X (.Expr (.Constant (.str x) jj p) p') sNext := PS.imp ps_doc fun D σ H h => by
  obtain ⟨B, G, ρ, o, ρ', s, e, k⟩ := h
  cases e
  exact k σ G H s
theorem pds_no : PDS A j X st sNo := PS.imp ps_never fun D σ H h => by
  obtain ⟨B, G, ρ, o, ρ', s, e, k⟩ := h
  cases e
theorem pds_expr (he : PD A X e me) (hs : swapsWith e none pos.line X.env = pure false := by rfl) : PDS A j X (.Expr e pos) (sExpr me) := PS.imp (ps_expr he hs) fun D σ H h => by
  obtain ⟨B, G, ρ, o, ρ', s, e, k⟩ := h
  obtain ⟨⟨x, ρ1⟩, e1, e⟩ := bind_ok e
  cases e
  exact use_val s.st e1 fun v G1 H1 n r => k σ G1 H1 (s.step n)
theorem pds_ret (he : PD A X e me) : PDS A j X (.Return (some e) pos) (sRet me) := PS.imp (ps_ret he) fun D σ H h => by
  obtain ⟨B, G, ρ, o, ρ', s, e, k⟩ := h
  obtain ⟨⟨r, ρ1⟩, e1, e⟩ := bind_ok e
  cases e
  refine ⟨G, ρ, r, _, s.st, e1, fun v G1 H1 n h => k v σ G1 H1 (s.step n) ?_⟩
  unfold RepR at *
  split at h
  · rename_i q
    rw [if_pos q]
    obtain ⟨p, e, h1, h2, h3, h4⟩ := h
    exact ⟨p, e, h1, h2, h3, s.fresh h4⟩
  · rename_i q
    rw [if_neg q]; exact h
theorem pds_retN : PDS A j X (.Return none pos) sRetN := PS.imp ps_retN fun D σ H h => by
  obtain ⟨B, G, ρ, o, ρ', s, e, k⟩ := h
  cases e
  exact k .non σ G H s (RepR.of .non)
/-- return x -/
theorem pds_retV {i : Nat} {x : Str} (h : PE X (.Name x pos') (tVar i)) (hj : j ≠ some i) : PDS A j X (.Return (some (.Name x pos')) pos) (sRetV i) := PS.imp (ps_ret h) fun D σ H h => by
  obtain ⟨B, G, ρ, o, ρ', s, e, k⟩ := h
  obtain ⟨⟨r, ρ1⟩, e1, e⟩ := bind_ok e
  cases e
  unfold eMove at e1
  split at e1
  · rename_i d hd
    cases e1
    obtain ⟨v, e2, rv⟩ := s.st.slot i _ hd
    exact ⟨v, getD_some e2, k v σ G H s (RepR.of rv)⟩
  · rename_i d hd
    cases e1
    obtain ⟨p, e2, n, z⟩ := s.st.slot i _ hd
    have e3 := getD_some e2
    have no : ¬ OwnS σ (ρ.set i .un) p := fun ⟨i', z⟩ => by
      have := own_set (s := .un) (fun _ z => nomatch z) z
      exact this.2 (s.st.dist i' i p this.1 ⟨⟨d, hd⟩, e3⟩)
    refine ⟨.ref p, e3, k _ σ G H ⟨s.st.put (fun _ z => nomatch z) trivial, s.ext, fun i' p' z => s.own i' p' (own_set (s := .un) (fun _ z => nomatch z) z).1⟩ (RepR.new n z no ?_)⟩
    exact (s.own i p ⟨⟨d, hd⟩, e3⟩).2 hj
  · cases e1
theorem pds_if {sa sb : List Stmt} (hc : PDT A X c mc) (ha : PDSs A j X sa m) (hb : PDSs A j X sb m') : PDS A j X (.If c sa sb pos) (sIf mc m m') := PS.imp (ps_if hc ha hb) fun D σ H h => by
  obtain ⟨B, G, ρ, o, ρ', s, e, k⟩ := h
  obtain ⟨⟨x, ρ1⟩, e1, e⟩ := bind_ok e
  obtain ⟨c, e2, e⟩ := bind_ok e
  cases isB_ok e2
  refine ⟨G, ρ, c, ρ1, s.st, e1, fun G1 H1 n => ?_⟩
  cases c with
  | true => exact iteT ⟨B, G1, ρ1, o, ρ', s.step n, e, k⟩
  | false => exact iteF ⟨B, G1, ρ1, o, ρ', s.step n, e, k⟩
end
/-! ### names that are stored -/
section
variable {K : PySem.W.Frag} {A : CT} {j : Option Nat} {B : Bs} {G G' G1 H H' H1 : Hp} {σ σ' : L2.St} {ρ ρ1 ρ2 ρ' : Env} {D : Ends}
theorem own_setσ {i k : Nat} {p : Addr} {v : V} {s : Slot} (h : Own (σ.set i (some v)) (ρ.set i s) k p) : (k ≠ i ∧ Own σ ρ k p) ∨ (k = i ∧ v = .ref p ∧ ∃ d, s = .ow d) := by
  obtain ⟨⟨d, h1⟩, h2⟩ := h
  by_cases e : i = k
  · subst e
    rw [List.getElem?_set_self'] at h1 h2
    refine .inr ⟨rfl, ?_⟩
    cases q : ρ[i]? with
    | none => rw [q] at h1; cases h1
    | some x =>
      rw [q] at h1
      cases q2 : σ[i]? with
      | none => rw [q2] at h2; cases h2
      | some y =>
        rw [q2] at h2
        exact ⟨Option.some.inj (Option.some.inj h2), d, Option.some.inj h1⟩
  · rw [List.getElem?_set_ne e] at h1 h2
    exact .inl ⟨fun z => e z.symm, ⟨d, h1⟩, h2⟩
/-- slot i holds a value that stays -/
theorem St.store {i : Nat} {v : V} {d : DY.D} (s : St K A σ G H ρ) (r : Rep K A G v d) : St K A (σ.set i (some v)) G H (ρ.set i (.sh d)) ∧ ∀ k p, Own (σ.set i (some v)) (ρ.set i (.sh d)) k p → Own σ ρ k p ∧ k ≠ i := by
  have ow : ∀ k p, Own (σ.set i (some v)) (ρ.set i (.sh d)) k p → Own σ ρ k p ∧ k ≠ i := fun k p z => by
    rcases own_setσ z with z | ⟨_, _, d', z⟩
    · exact ⟨z.2, z.1⟩
    · cases z
  refine ⟨⟨s.sub, by rw [List.length_set, List.length_set]; exact s.len, fun k z hz => ?_, fun a b p ha hb => s.dist a b p (ow a p ha).1 (ow b p hb).1⟩, ow⟩
  by_cases e : i = k
  · subst e
    rw [List.getElem?_set_self'] at hz
    cases q : ρ[i]? with
    | none => rw [q] at hz; cases hz
    | some x =>
      rw [q] at hz
      cases (Option.some.inj hz)
      refine ⟨v, getD_of ?_, r⟩
      have : i < σ.length := by rw [s.len]; exact (List.getElem?_eq_some_iff.mp q).1
      rw [List.getElem?_set_self this]
  · rw [List.getElem?_set_ne e] at hz
    have := s.slot k z hz
    rw [List.getD_eq_getElem?_getD, List.getElem?_set_ne e, ← List.getD_eq_getElem?_getD]
    exact this
/-- slot i holds a new object of its own -/
theorem St.storeO {i : Nat} {p : Addr} {d : DY.D} (s : St K A σ G H ρ) (n : G p = none) (h : Has K A G H p d) (no : ¬ OwnS σ ρ p) : St K A (σ.set i (some (.ref p))) G H (ρ.set i (.ow d)) ∧ ∀ k q, Own (σ.set i (some (.ref p))) (ρ.set i (.ow d)) k q → (Own σ ρ k q ∧ k ≠ i) ∨ (k = i ∧ q = p) := by
  have ow : ∀ k q, Own (σ.set i (some (.ref p))) (ρ.set i (.ow d)) k q → (Own σ ρ k q ∧ k ≠ i) ∨ (k = i ∧ q = p) := fun k q z => by
    rcases own_setσ z with z | ⟨e, e2, d', z⟩
    · exact .inl ⟨z.2, z.1⟩
    · cases e2; exact .inr ⟨e, rfl⟩
  refine ⟨⟨s.sub, by rw [List.length_set, List.length_set]; exact s.len, fun k z hz => ?_, fun a b q ha hb => ?_⟩, ow⟩
  · by_cases e : i = k
    · subst e
      rw [List.getElem?_set_self'] at hz
      cases q : ρ[i]? with
      | none => rw [q] at hz; cases hz
      | some x =>
        rw [q] at hz
        cases (Option.some.inj hz)
        refine ⟨p, getD_of ?_, n, h⟩
        have : i < σ.length := by rw [s.len]; exact (List.getElem?_eq_some_iff.mp q).1
        rw [List.getElem?_set_self this]
    · rw [List.getElem?_set_ne e] at hz
      have := s.slot k z hz
      rw [List.getD_eq_getElem?_getD, List.getElem?_set_ne e, ← List.getD_eq_getElem?_getD]
      exact this
  · rcases ow a q ha with ⟨x, xe⟩ | ⟨x, x'⟩
    · rcases ow b q hb with ⟨y, ye⟩ | ⟨y, y'⟩
      · exact s.dist a b q x y
      · exact absurd ⟨a, y' ▸ x⟩ no
    · rcases ow b q hb with ⟨y, ye⟩ | ⟨y, y'⟩
      · exact absurd ⟨b, x' ▸ y⟩ no
      · rw [x, y]
theorem StF.store {i : Nat} {v : V} {d : DY.D} (s : StF K A j B σ G H ρ) (r : Rep K A G v d) : StF K A j B (σ.set i (some v)) G H (ρ.set i (.sh d)) :=
  ⟨(s.st.store r).1, s.ext, fun k p z => s.own k p ((s.st.store r).2 k p z).1⟩
/-- the value of an evaluation is stored, w: as an own object if it is new -/
theorem StF.keep {w : Bool} {i : Nat} {v : V} {r : Rv} (s : StF K A j B σ G H ρ) (n : Nx K A σ G H ρ G' H' ρ') (h : RepR K A (OwnS σ ρ') H G' H' v r) (hw : w = true → j ≠ some i) : ∃ G2, L2.Same G' G2 ∧ StF K A j B (σ.set i (some v)) G2 H' (ρ'.set i (DY.keep w r)) := by
  obtain ⟨d, b⟩ := r
  have s' := s.step n
  cases b with
  | false => exact ⟨G', fun _ _ z => z, by
      have : DY.keep w (d, false) = .sh d := rfl
      rw [this]; exact s'.store h⟩
  | true =>
    cases w with
    | false =>
      obtain ⟨G2, n2, r2, g⟩ := n.frz h
      exact ⟨G2, g, (s.step n2).store r2⟩
    | true =>
      obtain ⟨p, rfl, h1, h2, h3, h4⟩ := h
      refine ⟨G', fun _ _ z => z, (s'.st.storeO h1 h2 h3).1, s'.ext, fun k q z => ?_⟩
      rcases (s'.st.storeO h1 h2 h3).2 k q z with ⟨z, _⟩ | ⟨rfl, rfl⟩
      · exact s'.own k q z
      · exact ⟨fun e => absurd e (hw rfl), fun _ => s.fresh h4⟩
end
section
variable {K : PySem.W.Frag} {A : CT} {j : Option Nat} {B : Bs} {G G' G1 G2 H H' H1 H2 : Hp} {σ σ' : L2.St} {ρ ρ1 ρ2 ρ' : Env} {D : Ends}
theorem RepR.base {v : V} {r : Rv} {O : Addr → Prop} (s : StF K A j B σ G H ρ) (h : RepR K A O H G' H' v r) : RepR K A O B.H G' H' v r := by
  unfold RepR at *
  split at h
  · rename_i q
    rw [if_pos q]
    obtain ⟨p, e, h1, h2, h3, h4⟩ := h
    exact ⟨p, e, h1, h2, h3, s.fresh h4⟩
  · rename_i q
    rw [if_neg q]; exact h
/-- a new thing that waits while something else is evaluated -/
theorem RepR.nx {v : V} {r : Rv} {H0 : Hp} (h : RepR K A (OwnS σ ρ1) H0 G1 H1 v r) (n : Nx K A σ G1 H1 ρ1 G2 H2 ρ2) : RepR K A (OwnS σ ρ2) H0 G2 H2 v r := by
  unfold RepR at *
  split at h
  · rename_i q
    rw [if_pos q]
    obtain ⟨p, e, h1, h2, h3, h4⟩ := h
    refine ⟨p, e, ?_, h2.mono n.gs fun o z => n.ext.hs p o z h3, fun ⟨i, z⟩ => h3 ⟨i, n.own i p z⟩, h4⟩
    cases z : G2 p with
    | none => rfl
    | some u =>
      rcases n.ext.fr p (by rw [z]; exact fun x => nomatch x) with z | z | z
      · exact absurd h1 z
      · obtain ⟨o, ho⟩ := h2.ex; rw [ho] at z; cases z
      · exact absurd z h3
  · rename_i q
    rw [if_neg q]; exact h.mono n.gs
theorem StF.keep0 {w : Bool} {i : Nat} {v : V} {r : Rv} (s : StF K A j B σ G H ρ) (h : RepR K A (OwnS σ ρ) B.H G H v r) (hw : w = true → j ≠ some i) : ∃ G2, StF K A j B (σ.set i (some v)) G2 H (ρ.set i (DY.keep w r)) ∧ L2.Same G G2 ∧ (∀ p, (r.2 = true → v ≠ .ref p) → G p = none → G2 p = none) ∧ ∀ k p, Own (σ.set i (some v)) (ρ.set i (DY.keep w r)) k p → Own σ ρ k p ∨ (r.2 = true ∧ v = .ref p) := by
  obtain ⟨d, b⟩ := r
  cases b with
  | false => exact ⟨G, s.store h, fun _ _ z => z, fun _ _ z => z, fun k p z => .inl ((s.st.store h).2 k p z).1⟩
  | true =>
    obtain ⟨p, rfl, h1, h2, h3, h4⟩ := h
    cases w with
    | false =>
      obtain ⟨o, ho, s1, r1, g⟩ := s.st.freeze h1 h2 h3
      have s2 : StF K A j B σ (upd G p o) H ρ := ⟨s1, ⟨fun q u z => g q u (s.ext.gs q u z), fun q hq => by
        by_cases z : q = p
        · subst z; exact .inr (.inl h4)
        · rw [upd_ne z] at hq; exact s.ext.fr q hq, s.ext.hs, s.ext.there⟩, s.own⟩
      exact ⟨_, s2.store r1, g, fun q hq z => by rw [upd_ne fun e => hq rfl (by rw [e])]; exact z, fun k q z => .inl ((s2.st.store r1).2 k q z).1⟩
    | true =>
      have so := s.st.storeO (i := i) h1 h2 h3
      refine ⟨G, ⟨so.1, s.ext, fun k q z => ?_⟩, fun _ _ z => z, fun _ _ z => z, fun k q z => ?_⟩
      · rcases so.2 k q z with ⟨z, _⟩ | ⟨rfl, rfl⟩
        · exact s.own k q z
        · exact ⟨fun e => absurd e (hw rfl), fun _ => h4⟩
      · rcases so.2 k q z with ⟨z, _⟩ | ⟨rfl, rfl⟩
        · exact .inl z
        · exact .inr ⟨rfl, rfl⟩
theorem StF.keep2 {w : Bool} {i k : Nat} {v v2 : V} {r q : Rv} (s : StF K A j B σ G H ρ) (h : RepR K A (OwnS σ ρ) B.H G H v r) (h' : RepR K A (OwnS σ ρ) B.H G H v2 q) (hd : r.2 = true → q.2 = true → v ≠ v2) (hik : i ≠ k) (hw : w = true → j ≠ some i ∧ j ≠ some k) :
    ∃ G2, StF K A j B ((σ.set i (some v)).set k (some v2)) G2 H ((ρ.set i (DY.keep w r)).set k (DY.keep w q)) := by
  obtain ⟨G1, s1, g1, f1, o1⟩ := s.keep0 (w := w) (i := i) h fun z => (hw z).1
  have h2 : RepR K A (OwnS (σ.set i (some v)) (ρ.set i (DY.keep w r))) B.H G1 H v2 q := by
    unfold RepR at h'
    split at h'
    · rename_i qf
      obtain ⟨p2, rfl, a1, a2, a3, a4⟩ := h'
      have ne : r.2 = true → v ≠ .ref p2 := fun rf => hd rf qf
      unfold RepR
      rw [if_pos qf]
      refine ⟨p2, rfl, f1 p2 ne a1, a2.mono g1 fun _ z => z, fun ⟨k', z⟩ => ?_, a4⟩
      rcases o1 k' p2 z with z | z
      · exact a3 ⟨k', z⟩
      · exact ne z.1 z.2
    · rename_i qf
      unfold RepR
      rw [if_neg qf]; exact h'.mono g1
  obtain ⟨G2, s2, _⟩ := s1.keep0 (w := w) (i := k) h2 fun z => (hw z).2
  exact ⟨G2, s2⟩
end
section
variable {X : Cx} {A : CT} {j : Option Nat} {e a b : Expr} {me ma mb : Ev} {pos pos' : Pos}
theorem set_use {K : PySem.W.Frag} {w : Bool} {i : Nat} {D : Ends} {σ : L2.St} {H : Hp} (hw : w = true → j ≠ some i) (h : liftS K A j (sAsg w i me) D σ H) : tAsg (liftE K A me) (gName i) D σ H := by
  obtain ⟨B, G, ρ, o, ρ', s, e, k⟩ := h
  obtain ⟨⟨r, ρ1⟩, e1, e⟩ := bind_ok e
  cases e
  refine ⟨G, ρ, r, ρ1, s.st, e1, fun v G1 H1 n h => ?_⟩
  obtain ⟨G2, _, s2⟩ := s.keep (w := w) (i := i) n h hw
  exact k _ G2 H1 s2
theorem pds_set {w : Bool} {i : Nat} {x : Str} (hN : X.N.Nodup) (hi : X.N[i]? = some x) (hx : Loc X.env.scope x) (he : PD A X e me) (hw : w = true → j ≠ some i) (hs : swapsWith e (some (.Name x pos')) pos.line X.env = pure false := by rfl) (hf : X.fn x = true ∨ X.env.scope.names.lookup x = some .local := by first | exact .inl rfl | exact .inr rfl | assumption) :
    PDS A j X (.Assign [.Name x pos'] e pos) (sAsg w i me) := PS.imp (ps_set hN hi hx he hs hf) fun D σ H => set_use hw
/-- from a rule for y = [..] -/
theorem pds_of_asg {st : Stmt} {w : Bool} {i : Nat} (h : PS X st (tAsg (liftE X.K A me) (gName i))) (hw : w = true → j ≠ some i) : PDS A j X st (sAsg w i me) := PS.imp h fun D σ H => set_use hw
theorem pds_par {w : Bool} {i k : Nat} {x y : Str} {px py pt : Pos} {kt k2 pt2} (hc : X.calm = true) (hN : X.N.Nodup) (hi : X.N[i]? = some x) (hk : X.N[k]? = some y) (hik : i ≠ k)
    (hx : X.env.scope.names.lookup x = some .local) (hy : X.env.scope.names.lookup y = some .local) (ha : PD A X a ma) (hb : PD A X b mb) (hw : w = true → j ≠ some i ∧ j ≠ some k)
    (hsw : swappedStores [.Tuple [.Name x px, .Name y py] kt pt] (.Tuple [a, b] k2 pt2) X.env = pure (some [x, y]))
    (hs : swapsWithSole [.Tuple [.Name x px, .Name y py] kt pt] (.Tuple [a, b] k2 pt2) pos.line X.env = pure false := by rfl)
    (h1 : starEach [a, b] X.env = (false, eval a X.env) :: starEach [b] X.env := by rfl) (h2 : starEach [b] X.env = (false, eval b X.env) :: starEach [] X.env := by rfl) :
    PDS A j X (.Assign [.Tuple [.Name x px, .Name y py] kt pt] (.Tuple [a, b] k2 pt2) pos) (sPar w i k ma mb) := PS.imp (ps_par hc hN hi hk hik hx hy (pa_cons ha (pa_cons hb pa_nil h2) h1) hsw hs) fun D σ H h => by
  obtain ⟨B, G, ρ, o, ρ', s, e, kk⟩ := h
  obtain ⟨⟨r, ρ1⟩, e1, e⟩ := bind_ok e
  obtain ⟨⟨q, ρ2⟩, e2, e⟩ := bind_ok e
  cases e
  refine ⟨G, ρ, r, ρ1, s.st, e1, fun v G1 H1 n h => ?_⟩
  have s1 := s.step n
  refine ⟨G1, ρ1, q, ρ2, n.st, e2, fun v2 G2 H2 n2 hh => ⟨v, v2, rfl, ?_⟩⟩
  have s2 := s1.step n2
  have r1 : RepR X.K A (OwnS σ ρ2) B.H G2 H2 v r := (RepR.base s h).nx n2
  have r2 : RepR X.K A (OwnS σ ρ2) B.H G2 H2 v2 q := RepR.base s1 hh
  obtain ⟨G3, s3⟩ := s2.keep2 (w := w) (i := i) (k := k) r1 r2 (fun h1 h2 => by
    unfold RepR at h hh
    rw [if_pos h1] at h
    rw [if_pos h2] at hh
    obtain ⟨p, e1, _, x, _, _⟩ := h
    obtain ⟨p2, e3, _, _, _, y⟩ := hh
    intro z
    rw [e1, e3] at z
    cases z
    obtain ⟨o, x⟩ := x.ex
    rw [y] at x; cases x) hik hw
  exact kk _ G3 H2 s3
end
end DY

set_option Elab.async false
set_option linter.all false
set_option maxRecDepth 100000
set_option maxHeartbeats 4000000
namespace DY
open PySem L2 PySem.Spec PyProof.Rows
section
variable {K : PySem.W.Frag} {A : CT} {j : Option Nat} {B : Bs} {G G' G1 G2 H H' H1 H2 : Hp} {σ σ' : L2.St} {ρ ρ1 ρ2 ρ' : Env} {Q : VK}
/-- slot i's own object is written -/
theorem St.write {i : Nat} {d d' : D} {p : Addr} {o : HO} (s : St K A σ G H ρ) (h : ρ[i]? = some (.ow d)) (hp : σ[i]? = some (some (.ref p))) (new : Has K A G (upd H p o) p d') : Nx K A σ G H ρ G (upd H p o) (ρ.set i (.ow d')) := by
  have hO : Own σ ρ i p := ⟨⟨d, h⟩, hp⟩
  obtain ⟨gn, _, _, _⟩ := hO.has s
  have ow : ∀ k q, Own σ (ρ.set i (.ow d')) k q → Own σ ρ k q := fun k q ⟨⟨d2, h1⟩, h2⟩ => by
    by_cases e : i = k
    · subst e; exact ⟨⟨d, h⟩, h2⟩
    · rw [List.getElem?_set_ne e] at h1; exact ⟨⟨d2, h1⟩, h2⟩
  have other : ∀ q, q ≠ p → ∀ u, H q = some u → upd H p o q = some u := fun q n u z => by rw [upd_ne n]; exact z
  refine ⟨⟨fun _ _ z => z, fun _ z => .inl z, fun q u z n => other q (fun e => n (e ▸ ⟨i, hO⟩)) u z, fun q z => ?_⟩, ⟨fun q u z => ?_, by rw [List.length_set]; exact s.len, fun k z hz => ?_, fun a b q ha hb => s.dist a b q (ow a q ha) (ow b q hb)⟩, ow⟩
  · by_cases e : q = p
    · subst e; rw [upd_same]; exact fun x => nomatch x
    · rw [upd_ne e]; exact z
  · have ne : q ≠ p := fun e => by subst e; rw [gn] at z; cases z
    rw [upd_ne ne]
    exact s.sub q u z
  · by_cases e : i = k
    · subst e
      rw [List.getElem?_set_self (List.getElem?_eq_some_iff.mp h).1] at hz
      cases (Option.some.inj hz)
      exact ⟨p, getD_of hp, gn, new⟩
    · rw [List.getElem?_set_ne e] at hz
      have q := s.slot k z hz
      cases z with
      | un => trivial
      | sh d2 => exact q
      | ow d2 =>
        obtain ⟨p2, e1, n1, h1⟩ := q
        have ne : p2 ≠ p := fun z => e (s.dist i k p hO ⟨⟨d2, hz⟩, z ▸ getD_some e1⟩)
        exact ⟨p2, e1, n1, h1.mono (fun _ _ z => z) fun u z => other p2 ne u z⟩
theorem St.at_ {i : Nat} {d : D} (s : St K A σ G H ρ) (h : ρ[i]? = some (.ow d)) : ∃ p, σ[i]? = some (some (.ref p)) ∧ G p = none ∧ Has K A G H p d := by
  obtain ⟨p, e, n, z⟩ := s.slot i _ h
  exact ⟨p, getD_some e, n, z⟩
/-! ### xs.append(e), xs.pop(..) -/
theorem mut_use {f : D → List D → R (D × D)} {i : Nat} {ms : List Ev} {r : V → List V → Hp → VK → Prop} (hl : ∀ d xs q, f d xs = .ok q → ∃ ds, d = .lst ds)
    (hr : ∀ {p : Addr} {vs ws : List V} {ds xs : List D} {d' y : D} {G H : Hp} {Q : VK}, Sub G H → H p = some (.lst vs) → Reps K A G vs ds → Reps K A G ws xs → f (.lst ds) xs = .ok (y, d') → (∀ v o, Rep K A G v y → Has K A G (upd H p o) p d' → Q v (upd H p o)) → r (.ref p) ws H Q)
    (h : liftE K A (eMut f i ms) σ H Q) : tBM K "list" r (tVar i) (liftA K A ms) σ H Q := by
  obtain ⟨G, ρ, r', ρ', s, e, k⟩ := h
  obtain ⟨d0, e0, ea⟩ := bind_ok e
  obtain ⟨_, el, eb⟩ := bind_ok ea
  obtain ⟨⟨xs, ρ1⟩, e1, ec⟩ := bind_ok eb
  obtain ⟨ds0, hd0⟩ : ∃ ds, d0 = .lst ds := by cases d0 <;> first | exact ⟨_, rfl⟩ | cases el
  rw [hd0] at e0
  clear ea eb el e
  have e := ec
  clear ec
  obtain ⟨v, hv, rb⟩ := look_at s e0
  dsimp only at e
  split at e
  · rename_i d hd
    obtain ⟨⟨y, d'⟩, e2, e⟩ := bind_ok e
    cases e
    obtain ⟨p0, vs0, rfl, h0, _⟩ := rb.lst s.sub
    refine ⟨_, hv, .inl ⟨rfl, vs0, SqL.of h0⟩, G, ρ, xs, ρ1, s, e1, fun ws G1 H1 n rs => ?_⟩
    obtain ⟨p, hp, gn, hh⟩ := n.st.at_ hd
    rw [hv] at hp
    cases hp
    obtain ⟨ds, rfl⟩ := hl _ _ _ e2
    obtain ⟨vs, h1, h2⟩ := hh
    exact hr n.st.sub h1 h2 rs e2 fun w o rw' new => k w G1 _ (n.trans (n.st.write hd hv new)) (RepR.of rw')
  · cases e
theorem app_l (d : D) (xs : List D) (q : D × D) (e : appendM d xs = .ok q) : ∃ ds, d = .lst ds := by
  unfold appendM at e
  split at e
  · exact ⟨_, rfl⟩
  · cases e
theorem pop_l (d : D) (xs : List D) (q : D × D) (e : popM d xs = .ok q) : ∃ ds, d = .lst ds := by
  unfold popM at e
  split at e
  · exact ⟨_, rfl⟩
  · exact ⟨_, rfl⟩
  · cases e
theorem app_r {p : Addr} {vs ws : List V} {ds xs : List D} {d' y : D} (sb : Sub G H) (hp : H p = some (.lst vs)) (r : Reps K A G vs ds) (rs : Reps K A G ws xs) (e : appendM (.lst ds) xs = .ok (y, d')) (k : ∀ v o, Rep K A G v y → Has K A G (upd H p o) p d' → Q v (upd H p o)) : rAppend (.ref p) ws H Q := by
  unfold appendM at e
  split at e
  · rename_i h; cases h
    obtain ⟨w, rfl, rw'⟩ := rs.inv1
    split at e
    · rename_i q
      cases e
      exact ⟨p, vs, w, rfl, rfl, hp, small1000 (by rw [r.len]; exact Nat.le_of_lt q), k _ _ .non ⟨_, upd_same, r.append (.cons rw' .nil)⟩⟩
    · cases e
  · cases e
theorem reps_erase {vs : List V} {ds : List D} (h : Reps K A G vs ds) (n : Nat) : Reps K A G (vs.eraseIdx n) (ds.eraseIdx n) := by
  induction vs generalizing ds n with
  | nil => cases h; simp; exact .nil
  | cons w vs ih =>
    cases h with
    | cons a r => cases n with
      | zero => exact r
      | succ n => exact .cons a (ih r n)
theorem reps_dropLast {vs : List V} {ds : List D} (h : Reps K A G vs ds) : Reps K A G vs.dropLast ds.dropLast := by
  rw [List.dropLast_eq_take, List.dropLast_eq_take, h.len]; exact h.take _
theorem pop_r {p : Addr} {vs ws : List V} {ds xs : List D} {d' y : D} (sb : Sub G H) (hp : H p = some (.lst vs)) (r : Reps K A G vs ds) (rs : Reps K A G ws xs) (e : popM (.lst ds) xs = .ok (y, d')) (k : ∀ v o, Rep K A G v y → Has K A G (upd H p o) p d' → Q v (upd H p o)) : rPop (.ref p) ws H Q ∨ rPopAt (.ref p) ws H Q := by
  unfold popM at e
  split at e
  · rename_i h; cases h
    cases rs
    split at e
    · rename_i q
      cases e
      obtain ⟨w, h1, h2⟩ := r.get' q
      exact .inl ⟨p, vs, w, rfl, rfl, hp, by rw [r.len]; exact h1, k _ _ h2 ⟨_, upd_same, reps_dropLast r⟩⟩
    · cases e
  · rename_i h; cases h
    rename_i i
    obtain ⟨w, rfl, rw'⟩ := rs.inv1
    cases rw'
    split at e
    · rename_i hlen
      split at e
      · rename_i jx hj
        split at e
        · rename_i q
          cases e
          obtain ⟨w, h1, h2⟩ := r.get' q
          have := L2.ixN_seq (show L2.ixN ds.length i = some jx from hj)
          exact .inr ⟨p, vs, i, jx, w, rfl, rfl, hp, by omega, by omega, by rw [r.len]; exact this.1, h1, k _ _ h2 ⟨_, upd_same, reps_erase r jx⟩⟩
        · cases e
      · cases e
    · cases e
  · cases e
end
end DY

set_option Elab.async false
set_option linter.all false
set_option maxRecDepth 100000
set_option maxHeartbeats 4000000
namespace DY
open PySem L2 PySem.Spec PyProof.Rows
section
variable {X : Cx} {A : CT} {x : Str} {pos pos' p apos cpos : Pos} {i : Nat} {a b e : Expr} {ma mb me : Ev} {j : Option Nat}
theorem pd_append (h : PE X (.Name x pos') (tVar i)) (ha : PDA A X [e] [me])
    (hx : ∀ {r : V → List V → Hp → VK → Prop}, MtM X "list.append" r → PE X (.Call (.Attribute (.Name x pos') "append" apos) [e] [] pos) (tBM X.K "list" r (tVar i) (liftA X.K A [me]))) :
    PD A X (.Call (.Attribute (.Name x pos') "append" apos) [e] [] pos) (eMut appendM i [me]) := PE.imp (hx mt_append) fun σ H Q q => mut_use (r := rAppend) app_l app_r q
theorem pd_pop1 (hx : ∀ {r : V → List V → Hp → VK → Prop}, MtM X "list.pop" r → PE X (.Call (.Attribute (.Name x pos') "pop" apos) [e] [] pos) (tBM X.K "list" r (tVar i) (liftA X.K A [me]))) :
    PD A X (.Call (.Attribute (.Name x pos') "pop" apos) [e] [] pos) (eMut popM i [me]) := PE.imp (hx (r := fun x xs H Q => rPop x xs H Q ∨ rPopAt x xs H Q) (by
      intro pins s σ H v vs u us Q I r1 r2 q
      rcases q with q | q
      · exact mt_pop pins s σ H v vs u us Q I r1 r2 q
      · exact mt_popAt pins s σ H v vs u us Q I r1 r2 q)) fun σ H Q q => mut_use (r := fun x xs H Q => rPop x xs H Q ∨ rPopAt x xs H Q) pop_l pop_r q
/-! ### slot[e] = v -/
def rPutD (o i v : V) (H : Hp) (Q : Hp → Prop) : Prop := rSetL o i v H Q ∨ ∃ a H4, o = .ref a ∧ DPut H a i v H4 ∧ Q H4
theorem set_any (hu : X.A.units + 1 < cLine) : PSet X rPutD := by
  intro pins s σ H o i v ov iv u Q I ro ri rv q
  rcases q with q | ⟨a, H4, rfl, g, q⟩
  · exact set_list pins s σ H o i v ov iv u Q I ro ri rv q
  · obtain rfl : ov = Value.ref a := ro
    exact d_setItem hu I g ri rv fun s' I' => ⟨H4, I', q⟩
theorem put_use {K : PySem.W.Frag} {D : Ends} {σ : L2.St} {H : Hp} (h : liftS K A j (sPut putM i me mb) D σ H) : tAsg (liftE K A mb) (gSub (tVar i) (liftE K A me) rPutD) D σ H := by
  obtain ⟨B, G, ρ, o, ρ', s, e, k⟩ := h
  obtain ⟨⟨y, ρ1⟩, e1, e⟩ := bind_ok e
  obtain ⟨d0, e0, e⟩ := bind_ok e
  obtain ⟨⟨xk, ρ2⟩, e2, e⟩ := bind_ok e
  dsimp only at e
  split at e
  · rename_i d hd
    obtain ⟨d', e3, e⟩ := bind_ok e
    cases e
    refine use_val s.st e1 fun v G1 H1 n1 r1 => ?_
    obtain ⟨w, hw, _⟩ := look_at n1.st e0
    refine ⟨w, hw, use_val n1.st e2 fun kx G2 H2 n2 r2 => ?_⟩
    obtain ⟨p, hp, gn, hh⟩ := n2.st.at_ hd
    rw [hw] at hp
    cases hp
    have fin : ∀ o, Has K A G2 (upd H2 p o) p d' → D.nx σ (upd H2 p o) := fun o new => k σ G2 _ (s.step ((n1.trans n2).trans (n2.st.write hd hw new)))
    have r1' := r1.mono n2.gs
    unfold putM at e3
    split at e3
    · cases r2
      obtain ⟨vs, h1, h2⟩ := hh
      split at e3
      · rename_i jx hj
        cases e3
        exact .inl ⟨p, vs, _, jx, rfl, rfl, h1, by rw [h2.len]; exact hj, fin _ ⟨_, upd_same, h2.set r1' jx⟩⟩
      · cases e3
    · cases r2
      rename_i kvs ii
      obtain ⟨kv, h1, h2⟩ := hh
      split at e3
      · rename_i q
        cases e3
        exact .inr ⟨p, _, rfl, DPut.k (k := .inl ii) h1 (small1000 (by rw [h2.len]; exact Nat.le_of_lt q)), fin _ ⟨_, upd_same, h2.put (.inl ii) r1'⟩⟩
      · cases e3
    · cases r2
      rename_i kvs ll
      obtain ⟨kv, h1, h2⟩ := hh
      split at e3
      · rename_i q
        cases e3
        exact .inr ⟨p, _, rfl, DPut.k (k := .inr (S ll)) h1 (small1000 (by rw [h2.len]; exact Nat.le_of_lt q)), fin _ ⟨_, upd_same, h2.put (.inr ll) r1'⟩⟩
      · cases e3
    · obtain ⟨kk, e4, e3⟩ := bind_ok e3
      obtain ⟨bb, rfl, hb⟩ := key_tup r2 e4 n2.st.sub
      obtain ⟨kv, h1, h2⟩ := hh
      split at e3
      · rename_i q
        cases e3
        exact .inr ⟨p, _, rfl, DPut.t h1 hb (small1000 (by rw [h2.len]; exact Nat.le_of_lt q)), fin _ ⟨_, upd_same, h2.put kk r1'⟩⟩
      · cases e3
    · cases e3
  · cases e
theorem pds_put (hu : X.A.units + 1 < cLine) (h : PE X (.Name x p) (tVar i)) (he : PD A X e me) (hb : PD A X b mb)
    (ha : ∀ v, assign (.Subscript (.Name x p) e pos') X.env v = (do
      let ov ← holding [v] (eval (.Name x p) X.env)
      let iv ← holding [v, ov] (eval e X.env)
      standAt pos'
      holding [v, ov, iv] (setItem ov iv v)
      release [v, ov, iv] []) := by intro _; rfl)
    (hs : swapsWithSole [.Subscript (.Name x p) e pos'] b pos.line X.env = pure false := by rfl) (hw : swappedStores [.Subscript (.Name x p) e pos'] b X.env = pure none := by rfl)
    (h1 : (assignEach [.Subscript (.Name x p) e pos'] X.env).map (·.2) = [assign (.Subscript (.Name x p) e pos') X.env] := by rfl) :
    PDS A j X (.Assign [.Subscript (.Name x p) e pos'] b pos) (sPut putM i me mb) := PS.imp (ps_asg hb (pg_sub h he (set_any hu) ha) hs hw h1) fun D σ H => put_use
/-! ### attributes -/
theorem lookup_zip : ∀ {nms : List Str} {vs : List V} {k : Nat} {f : Str} {v : V}, nms.Nodup → nms[k]? = some f → vs[k]? = some v → (nms.zip vs).lookup f = some v
  | [], _, _, _, _, _, h, _ => by simp at h
  | _ :: _, [], _, _, _, _, _, h => by simp at h
  | n :: nms, w :: vs, 0, f, v, _, h1, h2 => by
    simp at h1 h2
    subst h1; subst h2
    show List.lookup n ((n, w) :: nms.zip vs) = _
    rw [List.lookup_cons]; simp
  | n :: nms, w :: vs, k + 1, f, v, nd, h1, h2 => by
    have nd' := List.nodup_cons.mp nd
    have h1' : nms[k]? = some f := by simpa using h1
    have ne : (f == n) = false := beq_eq_false_iff_ne.mpr fun z => nd'.1 (z ▸ List.mem_of_getElem? h1')
    show List.lookup f ((n, w) :: nms.zip vs) = _
    rw [List.lookup_cons, ne]
    exact lookup_zip nd'.2 h1' (by simpa using h2)
theorem lookup_zip_none : ∀ {nms : List Str} {vs : List V} {f : Str}, f ∉ nms → (nms.zip vs).lookup f = none
  | [], _, _, _ => rfl
  | _ :: _, [], _, _ => rfl
  | n :: nms, w :: vs, f, h => by
    have ne : (f == n) = false := beq_eq_false_iff_ne.mpr fun z => h (z ▸ List.mem_cons_self)
    show List.lookup f ((n, w) :: nms.zip vs) = _
    rw [List.lookup_cons, ne]
    exact lookup_zip_none fun z => h (List.mem_cons_of_mem _ z)
/-- what the written part shows of an attribute: the k-th of class c -/
structure FldOk (K : PySem.W.Frag) (A : CT) (c k : Nat) (f : Str) : Prop where
  na : NoAttr K (A.ad c) f
  at_ : (A.nms c)[k]? = some f
  nd : (A.nms c).Nodup
theorem pd_fld {c k : Nat} {f : Str} (kd : KD X.K A) (F : FldOk X.K A c k f) (ha : PD A X a ma) (hb : attributeBase a f X.env (eval a X.env) = eval a X.env := by rfl) : PD A X (.Attribute a f pos) (eUn (fldD c k) ma) := PE.imp (pe_fld ha hb) fun σ H Q q => by
  obtain ⟨G, ρ, r, ρ', s, e, kk⟩ := q
  obtain ⟨⟨d1, ρ1⟩, e1, e⟩ := bind_ok e
  obtain ⟨r', e3, e⟩ := bind_ok e
  cases e
  refine use_val s e1 fun v G1 H1 n r1 => ?_
  unfold fldD at e3
  split at e3
  · split at e3
    · rename_i hc
      subst hc
      obtain ⟨d, fl⟩ := r
      obtain ⟨h1, rfl⟩ := opt_ok e3
      cases r1 with
      | ins h l c rs =>
        obtain ⟨w, h2, h3⟩ := rs.get' h1
        exact ⟨_, _, _, _, w, rfl, n.st.sub.ins h, (kd.cf _ c).cl, F.na, lookup_zip F.nd F.at_ h2, kk w G1 H1 n (RepR.of h3)⟩
    · cases e3
  · cases e3
theorem putF_zip : ∀ {nms : List Str} {vs : List V} {f : Str} {y : V}, nms.Nodup → nms[vs.length]? = some f → putF f y (nms.zip vs) = nms.zip (vs ++ [y])
  | [], _, _, _, _, h => by simp at h
  | n :: nms, [], f, y, _, h => by
    simp at h
    subst h
    cases nms <;> rfl
  | n :: nms, w :: vs, f, y, nd, h => by
    have nd' := List.nodup_cons.mp nd
    have h' : nms[vs.length]? = some f := by simpa using h
    have ne : ¬ n = f := fun z => nd'.1 (z ▸ List.mem_of_getElem? h')
    show (if n = f then (n, y) :: nms.zip vs else (n, w) :: putF f y (nms.zip vs)) = (n, w) :: nms.zip (vs ++ [y])
    rw [if_neg ne, putF_zip nd'.2 h']
theorem pds_fld {c k : Nat} {f : Str} (kd : KD X.K A) (F : FldOk X.K A c k f) (hz : (A.nms c).length ≤ 900) (h : PE X (.Name x p) (tVar 0)) (hb : PD A X b mb) (hs : swapsWith b (some (.Attribute (.Name x p) f pos')) pos.line X.env = pure false := by rfl) :
    PDS A j X (.Assign [.Attribute (.Name x p) f pos'] b pos) (sFld c k mb) := PS.imp (ps_fld h hb hs) fun D σ H q => by
  obtain ⟨B, G, ρ, o, ρ', s, e, kk⟩ := q
  obtain ⟨⟨y, ρ1⟩, e1, e⟩ := bind_ok e
  dsimp only at e
  split at e
  · rename_i c' fs hd
    split at e
    · rename_i hk0
      cases e
      obtain ⟨rfl, hk⟩ := hk0
      refine use_val s.st e1 fun v G1 H1 n r1 => ?_
      obtain ⟨q, hp, gn, dx, vs, h1, h2, h3, h4⟩ := n.st.at_ hd
      have hl : vs.length = k := by rw [h4.len]; exact hk.symm
      have e5 : putF f v ((A.nms c').zip vs) = (A.nms c').zip (vs ++ [v]) := putF_zip F.nd (by rw [hl]; exact F.at_)
      refine ⟨.ref q, hp, q, _, dx, _, rfl, h1, (kd.cf _ h3).cl, F.na, by rw [List.length_zip]; omega, ?_⟩
      rw [e5]
      refine kk σ G1 _ (s.step (n.trans (n.st.write hd hp ⟨dx, _, upd_same, ?_, h3, h4.append (.cons r1 .nil)⟩)))
      have := (List.getElem?_eq_some_iff.mp F.at_).1
      rw [List.length_append, hl]; exact this
    · cases e
  · cases e
end
end DY

set_option Elab.async false
set_option linter.all false
set_option maxRecDepth 100000
set_option maxHeartbeats 4000000
namespace DY
open PySem L2 PySem.Spec PyProof.Rows
/-! ### d.get(k, z), sep.join(l) -/
section
variable {K : PySem.W.Frag} {A : CT} {G G' G1 G2 H H' H1 H2 : Hp} {σ σ' : L2.St} {ρ ρ1 ρ2 ρ' : Env} {Q : VK} {ma mk mz : Ev} {i : Nat}
theorem isDict_of {x : V} {d y z : D} {r : Rv} (s : Sub G H) (rb : RepB K A G H x d) (e : dgetD d y z = .ok r) : ∃ a, x = .ref a ∧ IsD H a := by
  unfold dgetD at e
  split at e
  · obtain ⟨p, kvs, rfl, h, _⟩ := rb.dic s; exact ⟨p, rfl, .inl ⟨kvs, h⟩⟩
  · obtain ⟨p, kvs, rfl, h, _⟩ := rb.dic s; exact ⟨p, rfl, .inl ⟨kvs, h⟩⟩
  · obtain ⟨p, kvs, rfl, h, _⟩ := rb.dct s; exact ⟨p, rfl, .inr ⟨kvs, h⟩⟩
  · cases e
theorem get_of {a : Addr} {y z : V} {d dy dz : D} {r : Rv} (s : Sub G H) (rb : RepB K A G H (.ref a) d) (ry : Rep K A G y dy) (rz : Rep K A G z dz) (e : dgetD d dy dz = .ok r) : r.2 = false ∧ ∃ o, DGet H a y o ∧ Rep K A G (o.getD z) r.1 := by
  unfold dgetD at e
  split at e
  · cases ry
    rename_i kvs ii
    obtain ⟨p, kv, h0, h, q⟩ := rb.dic s
    cases h0
    cases e
    refine ⟨rfl, _, DGet.kr (k := .inl ii) h, ?_⟩
    rcases q.val (.inl ii) with ⟨d', w, h2, h3, h4⟩ | ⟨h2, h3⟩
    · rw [show valV kv (.inl ii) = some w from h3, h2]; exact h4
    · rw [show valV kv (.inl ii) = none from h3, h2]; exact rz
  · cases ry
    rename_i kvs ll
    obtain ⟨p, kv, h0, h, q⟩ := rb.dic s
    cases h0
    cases e
    refine ⟨rfl, _, DGet.kr (k := .inr (S ll)) h, ?_⟩
    rcases q.val (.inr ll) with ⟨d', w, h2, h3, h4⟩ | ⟨h2, h3⟩
    · rw [show valV kv (.inr (S ll)) = some w from h3, h2]; exact h4
    · rw [show valV kv (.inr (S ll)) = none from h3, h2]; exact rz
  · obtain ⟨p, kv, h0, h, q⟩ := rb.dct s
    cases h0
    obtain ⟨kk, e0, e⟩ := bind_ok e
    obtain ⟨b, rfl, hb⟩ := key_tup ry e0 s
    cases e
    refine ⟨rfl, _, DGet.tr h hb, ?_⟩
    rcases q.val kk with ⟨d', w, h2, h3, h4⟩ | ⟨h2, h3⟩
    · rw [h3, h2]; exact h4
    · rw [h3, h2]; exact rz
  · cases e
theorem get_use (h : liftE K A (eGet dgetD ma mk mz) σ H Q) : tDGet2 (liftE K A ma) (liftE K A mk) (liftE K A mz) σ H Q := by
  obtain ⟨G, ρ, r, ρ', s, e, k⟩ := h
  obtain ⟨⟨d, ρ1⟩, e1, e⟩ := bind_ok e
  obtain ⟨⟨dy, ρ2⟩, e2, e⟩ := bind_ok e
  obtain ⟨⟨dz, ρ3⟩, e3, e⟩ := bind_ok e
  obtain ⟨r', e4, e⟩ := bind_ok e
  cases e
  refine use_val s e1 fun x G1 H1 n1 r1 => ?_
  obtain ⟨a, rfl, isd⟩ := isDict_of n1.st.sub (.inl r1) e4
  refine ⟨a, rfl, isd, use_val n1.st e2 fun y G2 H2 n2 r2 => use_val n2.st e3 fun z G3 H3 n3 r3 => ?_⟩
  obtain ⟨fr, o, g, ro⟩ := get_of n3.st.sub (.inl ((r1.mono n2.gs).mono n3.gs)) (r2.mono n3.gs) r3 e4
  refine ⟨o, g, k _ G3 H3 ((n1.trans n2).trans n3) ?_⟩
  unfold RepR
  rw [if_neg (by rw [fr]; exact Bool.false_ne_true)]
  exact ro
theorem getS_use (h : liftE K A (eGetS dgetD i mk mz) σ H Q) : tDGet2 (tVar i) (liftE K A mk) (liftE K A mz) σ H Q := by
  obtain ⟨G, ρ, r, ρ', s, e, k⟩ := h
  obtain ⟨d0, e0, e⟩ := bind_ok e
  obtain ⟨⟨dy, ρ2⟩, e2, e⟩ := bind_ok e
  obtain ⟨⟨dz, ρ3⟩, e3, e⟩ := bind_ok e
  obtain ⟨d, e5, e⟩ := bind_ok e
  obtain ⟨r0, e6, e⟩ := bind_ok e
  obtain ⟨r', e4, e⟩ := bind_ok e
  cases e
  obtain ⟨v, hv, rb⟩ := look_at s e0
  obtain ⟨a, rfl, isd⟩ := isDict_of s.sub rb e6
  refine ⟨_, hv, a, rfl, isd, use_val s e2 fun y G2 H2 n2 r2 => use_val n2.st e3 fun z G3 H3 n3 r3 => ?_⟩
  obtain ⟨v', hv', rb'⟩ := look_at n3.st e5
  rw [hv] at hv'
  cases hv'
  obtain ⟨fr, o, g, ro⟩ := get_of n3.st.sub rb' (r2.mono n3.gs) r3 e4
  refine ⟨o, g, k _ G3 H3 (n2.trans n3) ?_⟩
  unfold RepR
  rw [if_neg (by rw [fr]; exact Bool.false_ne_true)]
  exact ro
end
section
variable {X : Cx} {A : CT} {x : Str} {pos pos' apos cpos : Pos} {i : Nat} {a e f : Expr} {ma me mf : Ev}
theorem pd_get (hu : X.A.units + 1 < cLine) (ha : PD A X a ma) (he : PD A X e me) (hf : PD A X f mf) (m : M2 X a "get" apos e f cpos) : PD A X (.Call (.Attribute a "get" apos) [e, f] [] cpos) (eGet dgetD ma me mf) := PE.imp (pe_dget2 hu ha he hf m) fun _ _ _ => get_use
theorem pd_getS (hu : X.A.units + 1 < cLine) (h : PE X (.Name x pos') (tVar i)) (he : PD A X e me) (hf : PD A X f mf) (m : M2 X (.Name x pos') "get" apos e f cpos) : PD A X (.Call (.Attribute (.Name x pos') "get" apos) [e, f] [] cpos) (eGetS dgetD i me mf) := PE.imp (pe_dget2 hu h he hf m) fun _ _ _ => getS_use
theorem fold_S (a : List Nat) : ∀ (xs : List (List Nat)) (acc : List Nat), ((xs.map S).foldl (fun acc p => acc ++ (S a).cps ++ p.cps) acc.toArray).toList = xs.foldl (fun acc y => acc ++ a ++ y) acc
  | [], acc => by simp
  | x :: xs, acc => by
    rw [List.map_cons, List.foldl_cons, List.foldl_cons]
    have : acc.toArray ++ (S a).cps ++ (S x).cps = (acc ++ a ++ x).toArray := by
      show acc.toArray ++ a.toArray ++ x.toArray = _
      simp
    rw [this]
    exact fold_S a xs _
theorem join_S (a : List Nat) (xs : List (List Nat)) : Txt.join (S a) (xs.map S) = S (joinS a xs) := by
  have ext : ∀ u v : Str, u.cps.toList = v.cps.toList → u = v := fun u v h => by rw [← S_cps u, ← S_cps v, h]
  refine ext _ _ ?_
  rw [S_toList]
  cases xs with
  | nil => rfl
  | cons x xs =>
    show ((xs.map S).foldl (fun acc p => acc ++ (S a).cps ++ p.cps) x.toArray).toList = _
    rw [fold_S]; rfl
def joinB (x y : D) : R Rv := joinD x [y]
theorem pd_join {o e : Expr} {mo me : Ev} (ho : PD A X o mo) (he : PD A X e me)
    (hx : ∀ {r : V → List V → Hp → VK → Prop} {to te : TE}, MtR X "str.join" r → PE X o to → PE X e te → PE X (.Call (.Attribute o "join" apos) [e] [] pos) (tM1 r to te)) :
    PD A X (.Call (.Attribute o "join" apos) [e] [] pos) (eBin joinB mo me) := PE.imp (hx SL.mt_joinX ho he) fun σ H Q q => by
  obtain ⟨G, ρ, r, ρ', s, e, k⟩ := q
  obtain ⟨⟨d1, ρ1⟩, e1, ea⟩ := bind_ok e
  obtain ⟨⟨d2, ρ2⟩, e2, eb⟩ := bind_ok ea
  obtain ⟨r', e3, ec⟩ := bind_ok eb
  clear e ea eb
  cases ec
  unfold joinB joinD at e3
  split at e3
  · rename_i hh
    cases hh
    refine use_val s e1 fun v G1 H1 n1 r1 => ?_
    cases r1
    refine ⟨⟨_, rfl⟩, use_val n1.st e2 fun w G2 H2 n2 r2 => ?_⟩
    cases r2 with | lst h1 q1 =>
    obtain ⟨ss, e4, e3⟩ := bind_ok e3
    split at e3
    · rename_i hz
      cases e3
      have := strs_rep q1 e4
      subst this
      refine ⟨_, _, ss.map S, rfl, rfl, .inl (SqL.of (n2.st.sub.lst h1)), ?_, ?_⟩
      · rw [List.map_map, List.length_map, S_len]
        have : (ss.map ((fun x : Str => x.length) ∘ S)) = ss.map (·.length) := List.map_congr_left fun l _ => S_len l
        rw [this]; omega
      · rw [join_S]
        exact k _ G2 H2 (n1.trans n2) (RepR.of (.str _))
    · cases e3
  · cases e3
end
/-! ### defs -/
section
variable (K : PySem.W.Frag) (A : CT)
/-- the promise of a def by its mirror -/
def spF (F : Fn) (n : Nat) : Sp := fun vs H Q _ => vs.length = n ∧ rDn K A F vs H Q
def spR (F : FnR) (n j : Nat) : Sp := fun vs H Q _ => vs.length = n ∧ j < n ∧ ∃ G ds d p r d', Sub G H ∧ vs[j]? = some (.ref p) ∧ Reps K A G (vs.eraseIdx j) ds ∧ G p = none ∧ Has K A G H p d ∧ F ds d = .ok (r, d') ∧
  ∀ v G' H', Ext (fun q => q = p) G H G' H' → Sub G' H' → G' p = none → Has K A G' H' p d' → RepN K A H G' H' v r → Q v H'
end
section
variable {K : PySem.W.Frag} {A : CT} {G H : Hp} {Q : VK}
theorem reps_un {G : Hp} : ∀ {vs : List V} {ds : List D}, Reps K A G vs ds → ∀ (i : Nat) (s : Slot), (ds.map Slot.sh)[i]? = some s → ∃ d v, s = Slot.sh d ∧ vs[i]? = some v ∧ Rep K A G v d := fun {vs ds} h i s e => by
  rw [List.getElem?_map] at e
  obtain ⟨d, h1, rfl⟩ := Option.map_eq_some_iff.mp e
  obtain ⟨v, h2, h3⟩ := h.get' h1
  exact ⟨d, v, rfl, h2, h3⟩
/-- the slots at a def's entry -/
theorem start_st {N : List Str} {vs : List V} {ds : List D} {n : Nat} (hn : N.length = n) (s : Sub G H) (r : Reps K A G vs ds) (hl : ds.length ≤ n) : St K A (L2.start N vs) G H (slots n ds) := by
  have lv : vs.length = ds.length := r.len
  have hslot : ∀ (i : Nat) (s : Slot), (slots n ds)[i]? = some s → (∃ d v, s = Slot.sh d ∧ (L2.start N vs)[i]? = some (some v) ∧ Rep K A G v d) ∨ s = Slot.un := fun i s e => by
    unfold slots at e
    by_cases hi : i < ds.length
    · rw [List.getElem?_append_left (by simpa using hi)] at e
      obtain ⟨d, v, rfl, h1, h2⟩ := reps_un r i s e
      refine .inl ⟨d, v, rfl, ?_, h2⟩
      unfold L2.start
      rw [List.getElem?_append_left (by rw [List.length_map, lv]; exact hi), List.getElem?_map, h1]; rfl
    · rw [List.getElem?_append_right (by simpa using hi)] at e
      exact .inr (List.eq_of_mem_replicate (List.mem_of_getElem? e))
  have noOwn : ∀ i p, ¬ Own (L2.start N vs) (slots n ds) i p := fun i p ⟨⟨d, h1⟩, _⟩ => by
    rcases hslot i _ h1 with ⟨_, _, e, _⟩ | e <;> cases e
  refine ⟨s, ?_, fun i s e => ?_, fun i j p h _ => absurd h (noOwn i p)⟩
  · unfold L2.start slots
    rw [List.length_append, List.length_append, List.length_map, List.length_map, List.length_replicate, List.length_replicate, lv, hn]
  · rcases hslot i s e with ⟨d, v, rfl, h1, h2⟩ | rfl
    · exact ⟨v, getD_of h1, h2⟩
    · trivial
theorem noOwn_start {N : List Str} {vs : List V} {ds : List D} {n : Nat} : ∀ i p, ¬ Own (L2.start N vs) (slots n ds) i p := fun i p ⟨⟨d, h1⟩, _⟩ => by
  unfold slots at h1
  by_cases hi : i < ds.length
  · rw [List.getElem?_append_left (by simpa using hi), List.getElem?_map] at h1
    obtain ⟨_, _, e⟩ := Option.map_eq_some_iff.mp h1
    cases e
  · rw [List.getElem?_append_right (by simpa using hi)] at h1
    have := List.eq_of_mem_replicate (List.mem_of_getElem? h1)
    cases this
/-- a def's promise from its body's mirror -/
theorem enter_F {N : List Str} {n p : Nat} {body : Sv} {vs : List V} {E : XK} (hn : N.length = n) (hp : p ≤ n) (h : spF K A (mkFn n p body) p vs H Q E) : liftS K A none body { nx := fun _ H' => Q .non H', rt := Q } (L2.start N vs) H := by
  obtain ⟨_, G, ds, r, s, rs, e, k⟩ := h
  unfold mkFn at e
  split at e
  · rename_i hl
    obtain ⟨⟨o, ρ'⟩, e1, e⟩ := bind_ok e
    have s0 := start_st (N := N) hn s rs (by omega)
    refine ⟨⟨G, H, none⟩, G, slots n ds, o, ρ', ⟨s0, Ext.refl _ _ _, fun i p z => absurd z (noOwn_start i p)⟩, e1, ?_⟩
    have x0 : ∀ {σ' G' H'}, StF K A none ⟨G, H, none⟩ σ' G' H' ρ' → Nx0 G H G' H' := fun {σ' G' H'} z => ⟨z.ext.weak (fun p w => nomatch w), z.st.sub⟩
    cases o with
    | nx =>
      cases e
      exact fun σ' G' H' z => k .non G' H' (x0 z) (RepR.of .non)
    | bk => cases e
    | ct => cases e
    | rt r' =>
      cases e
      intro v σ' G' H' z hr
      refine k v G' H' (x0 z) ?_
      unfold RepN RepR at *
      split at hr
      · rename_i q
        rw [if_pos q]
        obtain ⟨p, e, h1, h2, _, h4⟩ := hr
        exact ⟨p, e, h1, h2, id, h4⟩
      · rename_i q
        rw [if_neg q]; exact hr
  · cases e
theorem insert_reps {G : Hp} {vs : List V} {ds : List D} {j : Nat} {w : V} : Reps K A G (vs.eraseIdx j) ds → vs[j]? = some w → ∃ xs ys, vs = xs ++ w :: ys ∧ xs.length = j ∧ Reps K A G xs (ds.take j) ∧ Reps K A G ys (ds.drop j) := fun h e => by
  have hj := (List.getElem?_eq_some_iff.mp e).1
  refine ⟨vs.take j, vs.drop (j + 1), ?_, by rw [List.length_take]; omega, ?_, ?_⟩
  · have := (List.getElem?_eq_some_iff.mp e).2
    rw [← this]
    exact (List.take_append_drop j vs).symm.trans (by rw [List.drop_eq_getElem_cons hj])
  · have := h.take j
    rw [List.eraseIdx_eq_take_drop_succ, List.take_append_of_le_length (by rw [List.length_take]; omega), List.take_take, Nat.min_self] at this
    exact this
  · have := h.drop j
    rw [List.eraseIdx_eq_take_drop_succ, List.drop_append_of_le_length (by rw [List.length_take]; omega), List.drop_take, Nat.sub_self, List.take_zero, List.nil_append] at this
    exact this
end
end DY

set_option Elab.async false
set_option linter.all false
set_option maxRecDepth 100000
set_option maxHeartbeats 4000000
namespace DY
open PySem L2 PySem.Spec PyProof.Rows
section
variable {K : PySem.W.Frag} {A : CT} {G G' G1 G2 H H' H1 H2 : Hp} {σ σ' : L2.St} {ρ ρ1 ρ2 ρ' : Env} {Q : VK}
theorem ins_get {vs : List V} {ds : List D} {j : Nat} {w : V} {d : D} (h : Reps K A G (vs.eraseIdx j) ds) (e : vs[j]? = some w) : ∀ i, i ≠ j → ∀ x, (ds.take j ++ d :: ds.drop j)[i]? = some x → ∃ v, vs[i]? = some v ∧ Rep K A G v x := by
  obtain ⟨xs, ys, rfl, hl, h1, h2⟩ := insert_reps h e
  intro i hi x hx
  have tl : (ds.take j).length = j := by rw [← h1.len, hl]
  by_cases q : i < j
  · rw [List.getElem?_append_left (by omega)] at hx
    obtain ⟨v, e1, e2⟩ := h1.get' hx
    exact ⟨v, by rw [List.getElem?_append_left (by omega)]; exact e1, e2⟩
  · rw [List.getElem?_append_right (by omega), tl] at hx
    obtain ⟨m, hm⟩ : ∃ m, i - j = m + 1 := ⟨i - j - 1, by omega⟩
    rw [hm] at hx
    obtain ⟨v, e1, e2⟩ := h2.get' (show (ds.drop j)[m]? = some x by simpa using hx)
    refine ⟨v, ?_, e2⟩
    rw [List.getElem?_append_right (by omega), hl, hm]
    simpa using e1
theorem enter_R {N : List Str} {n p j : Nat} {body : Sv} {vs : List V} {E : XK} (hn : N.length = n) (hp : p ≤ n) (h : spR K A (mkFnR n p j body) p j vs H Q E) : liftS K A (some j) body { nx := fun _ H' => Q .non H', rt := Q } (L2.start N vs) H := by
  obtain ⟨hvl, hj, G, ds, d, q, r, d', s, e0, rs, gn, hh, e, k⟩ := h
  unfold mkFnR at e
  split at e
  · rename_i hl
    obtain ⟨⟨o, ρ'⟩, e1, e⟩ := bind_ok e
    obtain ⟨r', e2, e⟩ := bind_ok e
    have dl : (ds.take j ++ d :: ds.drop j).length = p := by
      rw [List.length_append, List.length_cons, List.length_take, List.length_drop]; omega
    have sl : (L2.start N vs).length = n := by unfold L2.start; rw [List.length_append, List.length_map, List.length_replicate, hvl, hn]; omega
    have sj : (L2.start N vs)[j]? = some (some (.ref q)) := by
      unfold L2.start
      rw [List.getElem?_append_left (by rw [List.length_map]; omega), List.getElem?_map, e0]; rfl
    have ρl : (slots n (ds.take j ++ d :: ds.drop j)).length = n := by unfold slots; rw [List.length_append, List.length_map, List.length_replicate, dl]; omega
    have hslot : ∀ (i : Nat) (z : Slot), ((slots n (ds.take j ++ d :: ds.drop j)).set j (.ow d))[i]? = some z → (i = j ∧ z = .ow d) ∨ (i ≠ j ∧ ((∃ x v, z = Slot.sh x ∧ (L2.start N vs)[i]? = some (some v) ∧ Rep K A G v x) ∨ z = .un)) := fun i z hz => by
      by_cases q : j = i
      · subst q
        rw [List.getElem?_set_self (by omega)] at hz
        exact .inl ⟨rfl, (Option.some.inj hz).symm⟩
      · refine .inr ⟨fun z => q z.symm, ?_⟩
        rw [List.getElem?_set_ne q] at hz
        unfold slots at hz
        by_cases hi : i < p
        · rw [List.getElem?_append_left (by rw [List.length_map]; omega), List.getElem?_map] at hz
          obtain ⟨x, h1, h2⟩ := Option.map_eq_some_iff.mp hz
          obtain ⟨v, h3, h4⟩ := ins_get rs e0 i (fun z => q z.symm) x h1
          refine .inl ⟨x, v, h2.symm, ?_, h4⟩
          unfold L2.start
          rw [List.getElem?_append_left (by rw [List.length_map]; omega), List.getElem?_map, h3]; rfl
        · rw [List.getElem?_append_right (by rw [List.length_map]; omega)] at hz
          exact .inr (List.eq_of_mem_replicate (List.mem_of_getElem? hz))
    have ow : ∀ i p', Own (L2.start N vs) ((slots n (ds.take j ++ d :: ds.drop j)).set j (.ow d)) i p' → i = j ∧ p' = q := fun i p' ⟨⟨d2, h1⟩, h2⟩ => by
      rcases hslot i _ h1 with ⟨rfl, _⟩ | ⟨_, ⟨_, _, z, _⟩ | z⟩
      · rw [sj] at h2; cases h2; exact ⟨rfl, rfl⟩
      · cases z
      · cases z
    have s0 : St K A (L2.start N vs) G H ((slots n (ds.take j ++ d :: ds.drop j)).set j (.ow d)) := by
      refine ⟨s, by rw [List.length_set, sl, ρl], fun i z hz => ?_, fun a b p' ha hb => by rw [(ow a p' ha).1, (ow b p' hb).1]⟩
      rcases hslot i z hz with ⟨rfl, rfl⟩ | ⟨_, ⟨x, v, rfl, h1, h2⟩ | rfl⟩
      · exact ⟨q, getD_of sj, gn, hh⟩
      · exact ⟨v, getD_of h1, h2⟩
      · trivial
    refine ⟨⟨G, H, some q⟩, G, _, o, ρ', ⟨s0, Ext.refl _ _ _, fun i p' z => ⟨fun _ => by rw [(ow i p' z).2], fun w => absurd (by rw [(ow i p' z).1]) w⟩⟩, e1, ?_⟩
    have fin : ∀ {v : V} {σ' : L2.St} {G' H' : Hp}, StF K A (some j) ⟨G, H, some q⟩ σ' G' H' ρ' → RepR K A (OwnS σ' ρ') H G' H' v r' → Q v H' := fun {v σ' G' H'} z hr => by
      split at e
      · rename_i d2 hd
        cases e
        obtain ⟨p', h1, h2, h3⟩ := z.st.at_ hd
        obtain rfl : q = p' := Option.some.inj ((z.own j p' ⟨⟨_, hd⟩, h1⟩).1 rfl)
        refine k v G' H' (z.ext.weak fun x w => (Option.some.inj w).symm) z.st.sub h2 h3 ?_
        unfold RepN RepR at *
        split at hr
        · rename_i q
          rw [if_pos q]
          obtain ⟨p, e, h1, h2, _, h4⟩ := hr
          exact ⟨p, e, h1, h2, id, h4⟩
        · rename_i q
          rw [if_neg q]; exact hr
      · cases e
    cases o with
    | nx => cases e2; exact fun σ' G' H' z => fin z (RepR.of .non)
    | bk => cases e2
    | ct => cases e2
    | rt r2 => cases e2; exact fun v σ' G' H' z hr => fin z hr
  · cases e
/-- a lent object comes back -/
theorem St.lent {i : Nat} {d d' : D} {p : Addr} (s : St K A σ G H ρ) (h : ρ[i]? = some (.ow d)) (hp : σ[i]? = some (some (.ref p))) (x : Ext (fun q => q = p) G H G' H') (sb : Sub G' H') (gn : G' p = none) (new : Has K A G' H' p d') : Nx K A σ G H ρ G' H' (ρ.set i (.ow d')) := by
  have hO : Own σ ρ i p := ⟨⟨d, h⟩, hp⟩
  have ow : ∀ k q, Own σ (ρ.set i (.ow d')) k q → Own σ ρ k q := fun k q ⟨⟨d2, h1⟩, h2⟩ => by
    by_cases e : i = k
    · subst e; exact ⟨⟨d, h⟩, h2⟩
    · rw [List.getElem?_set_ne e] at h1; exact ⟨⟨d2, h1⟩, h2⟩
  refine ⟨x.weak fun q e => e ▸ ⟨i, hO⟩, ⟨sb, by rw [List.length_set]; exact s.len, fun k z hz => ?_, fun a b q ha hb => s.dist a b q (ow a q ha) (ow b q hb)⟩, ow⟩
  by_cases e : i = k
  · subst e
    rw [List.getElem?_set_self (List.getElem?_eq_some_iff.mp h).1] at hz
    cases (Option.some.inj hz)
    exact ⟨p, getD_of hp, gn, new⟩
  · rw [List.getElem?_set_ne e] at hz
    have q := s.slot k z hz
    cases z with
    | un => trivial
    | sh d2 => obtain ⟨v, h1, h2⟩ := q; exact ⟨v, h1, h2.mono x.gs⟩
    | ow d2 =>
      obtain ⟨p2, e1, n1, h1⟩ := q
      have ne : p2 ≠ p := fun z => e (s.dist i k p hO ⟨⟨d2, hz⟩, z ▸ getD_some e1⟩)
      refine ⟨p2, e1, ?_, h1.mono x.gs fun u z => x.hs p2 u z ne⟩
      cases z : G' p2 with
      | none => rfl
      | some u =>
        rcases x.fr p2 (by rw [z]; exact fun x => nomatch x) with z | z | z
        · exact absurd n1 z
        · obtain ⟨o, ho⟩ := h1.ex; rw [ho] at z; cases z
        · exact absurd z ne
/-- .. where it was nobody's -/
theorem St.lent0 {p : Addr} (s : St K A σ G H ρ) (no : ¬ OwnS σ ρ p) (x : Ext (fun q => q = p) G H G' H') (sb : Sub G' H') : St K A σ G' H' ρ := by
  refine ⟨sb, s.len, fun k z hz => ?_, s.dist⟩
  have q := s.slot k z hz
  cases z with
  | un => trivial
  | sh d2 => obtain ⟨v, h1, h2⟩ := q; exact ⟨v, h1, h2.mono x.gs⟩
  | ow d2 =>
    obtain ⟨p2, e1, n1, h1⟩ := q
    have ne : p2 ≠ p := fun z => no ⟨k, ⟨d2, hz⟩, z ▸ getD_some e1⟩
    refine ⟨p2, e1, ?_, h1.mono x.gs fun u z => x.hs p2 u z ne⟩
    cases z : G' p2 with
    | none => rfl
    | some u =>
      rcases x.fr p2 (by rw [z]; exact fun x => nomatch x) with z | z | z
      · exact absurd n1 z
      · obtain ⟨o, ho⟩ := h1.ex; rw [ho] at z; cases z
      · exact absurd z ne
variable (K A) in
def liftAR (ms : List Ev) (i : Nat) (ms' : List Ev) : TA := fun σ H Q => ∃ G ρ ds es ρ1 ρ2 w, St K A σ G H ρ ∧ evs ms ρ = .ok (ds, ρ1) ∧ evs ms' ρ1 = .ok (es, ρ2) ∧ σ[i]? = some (some w) ∧ ∀ vs ws G' H', Nx K A σ G H ρ G' H' ρ2 → Reps K A G' vs ds → Reps K A G' ws es → Q (vs ++ w :: ws) H'
variable (K A) in
def liftAT (ms : List Ev) (m : Ev) : TA := fun σ H Q => ∃ G ρ ds ρ1 t ρ2, St K A σ G H ρ ∧ evs ms ρ = .ok (ds, ρ1) ∧ m ρ1 = .ok (t, ρ2) ∧ ∀ vs w G' H', Nx K A σ G H ρ G' H' ρ2 → Reps K A G' vs ds → RepR K A (OwnS σ ρ2) H G' H' w t → Q (vs ++ [w]) H'
end
section
variable {X : Cx} {A : CT} {x : Str} {pos pos' p : Pos} {i : Nat} {a e : Expr} {es : List Expr} {ma me : Ev} {ms ms' : List Ev}
theorem par_nil (h : PE X (.Name x pos') (tVar i)) (hr : PDA A X es ms) (hs : starEach (.Name x pos' :: es) X.env = (false, eval (.Name x pos') X.env) :: starEach es X.env := by rfl) : PA X (.Name x pos' :: es) (liftAR X.K A [] i ms) := PA.imp (pa_cons h hr hs) fun σ H Q q => by
  obtain ⟨G, ρ, ds, es, ρ1, ρ2, w, s, e1, e2, hw, k⟩ := q
  cases e1
  exact ⟨w, hw, G, _, es, ρ2, s, e2, fun ws G' H' n rs => k [] ws G' H' n .nil rs⟩
theorem par_cons (ha : PD A X a ma) (hr : PA X es (liftAR X.K A ms i ms')) (hs : starEach (a :: es) X.env = (false, eval a X.env) :: starEach es X.env := by rfl) : PA X (a :: es) (liftAR X.K A (ma :: ms) i ms') := PA.imp (pa_cons ha hr hs) fun σ H Q q => by
  obtain ⟨G, ρ, ds, es, ρ1, ρ2, w, s, e1, e2, hw, k⟩ := q
  obtain ⟨⟨d, ρ0⟩, e0, e1⟩ := bind_ok e1
  obtain ⟨⟨ds', ρ1'⟩, e3, e1⟩ := bind_ok e1
  cases e1
  exact use_val s e0 fun v G1 H1 n r => ⟨G1, ρ0, ds', es, _, ρ2, w, n.st, e3, e2, hw, fun vs ws G' H' n2 r1 r2 => k (v :: vs) ws G' H' (n.trans n2) (.cons (r.mono n2.gs) r1) r2⟩
theorem pat_nil (he : PD A X e me) (hs : starEach [e] X.env = (false, eval e X.env) :: starEach [] X.env := by rfl) : PA X [e] (liftAT X.K A [] me) := PA.imp (pa_cons he pa_nil hs) fun σ H Q q => by
  obtain ⟨G, ρ, ds, ρ1, t, ρ2, s, e1, e2, k⟩ := q
  cases e1
  exact ⟨G, _, t, ρ2, s, e2, fun w G' H' n r => k [] w G' H' n .nil r⟩
theorem pat_cons (ha : PD A X a ma) (hr : PA X es (liftAT X.K A ms me)) (hs : starEach (a :: es) X.env = (false, eval a X.env) :: starEach es X.env := by rfl) : PA X (a :: es) (liftAT X.K A (ma :: ms) me) := PA.imp (pa_cons ha hr hs) fun σ H Q q => by
  obtain ⟨G, ρ, ds, ρ1, t, ρ2, s, e1, e2, k⟩ := q
  obtain ⟨⟨d, ρ0⟩, e0, e1⟩ := bind_ok e1
  obtain ⟨⟨ds', ρ1'⟩, e3, e1⟩ := bind_ok e1
  cases e1
  exact use_val s e0 fun v G1 H1 n r => ⟨G1, ρ0, ds', _, t, ρ2, n.st, e3, e2, fun vs w G' H' n2 r1 r2 => k (v :: vs) w G' H' (n.trans n2) (.cons (r.mono n2.gs) r1) (later n r2)⟩
/-! ### calls -/
variable {CX : CXT} {k n : Nat} {f C : Addr} {fd : FuncData} {ps : List Str} {E : XK}
theorem call_use {K : PySem.W.Frag} {F : Fn} {dvs : List V} {dds : List D} {σ : L2.St} {H : Hp} {Q : VK} (hF : ∀ ds r, F ds = .ok r → ds.length = n) (hd : ∀ G, Reps K A G dvs dds) (h : liftE K A (eN (fun xs => F (xs ++ dds)) ms) σ H Q) : tCall (spF K A F n) dvs E (liftA K A ms) σ H Q := by
  refine TA_mono (n_use h) fun vs H1 q => ?_
  obtain ⟨G, ds, r, s, rs, e, k⟩ := q
  have rr := rs.append (hd G)
  exact ⟨by rw [rr.len]; exact hF _ _ e, G, _, r, s, rr, e, k⟩
theorem pd_callD {F : Fn} {dvs : List V} {ds : List Value} {dds : List D} (hF : ∀ ds r, F ds = .ok r → ds.length = n) (hdd : ∀ G, Reps X.K A G dvs dds) (Fo : FnOk X.prog X.w X.K X.mg X.base CX k f fd ps (spF X.K A F n)) (hr : Room k X.A) (hg : Gl X x) (hm : X.mg x = some (.ref f)) (hk : PySem.W.keepIn X.K (.ref f) = true) (hb : Binds X.K fd ps ds) (hd : Vals dvs ds) (hx : Passes CX X E)
    (ha : PDA A X (e :: es) ms) (hdb : (x == ("__debug__" : Str)) = false := by decide) (he : starEach (e :: es) X.env = (false, eval e X.env) :: starEach es X.env := by rfl) (hpl : (backTo pos (starEach es X.env)).any (·.1) = false := by rfl) :
    PD A X (.Call (.Name x p) (e :: es) [] pos) (eN (fun xs => F (xs ++ dds)) ms) := PE.imp (pe_call Fo hr hg hm hk hb hd hx ha hdb he hpl) fun _ _ _ => call_use hF hdd
theorem app_nil {F : Fn} : (fun xs => F (xs ++ [])) = F := by funext xs; rw [List.append_nil]
theorem pd_call {F : Fn} (hF : ∀ ds r, F ds = .ok r → ds.length = n) (Fo : FnOk X.prog X.w X.K X.mg X.base CX k f fd ps (spF X.K A F n)) (hr : Room k X.A) (hg : Gl X x) (hm : X.mg x = some (.ref f)) (hk : PySem.W.keepIn X.K (.ref f) = true) (hb : Binds X.K fd ps []) (hx : Passes CX X E)
    (ha : PDA A X (e :: es) ms) (hdb : (x == ("__debug__" : Str)) = false := by decide) (he : starEach (e :: es) X.env = (false, eval e X.env) :: starEach es X.env := by rfl) (hpl : (backTo pos (starEach es X.env)).any (·.1) = false := by rfl) :
    PD A X (.Call (.Name x p) (e :: es) [] pos) (eN F ms) := by
  have := pd_callD (dds := []) hF (fun _ => .nil) Fo hr hg hm hk hb .nil hx ha hdb he hpl (p := p) (pos := pos)
  rw [app_nil] at this
  exact this
theorem pd_call0 {F : Fn} (hF : ∀ ds r, F ds = .ok r → ds.length = n) (Fo : FnOk X.prog X.w X.K X.mg X.base CX k f fd ps (spF X.K A F n)) (hr : Room k X.A) (hg : Gl X x) (hm : X.mg x = some (.ref f)) (hk : PySem.W.keepIn X.K (.ref f) = true) (hb : Binds X.K fd ps []) (hx : Passes CX X E)
    (hdb : (x == ("__debug__" : Str)) = false := by decide) : PD A X (.Call (.Name x p) [] [] pos) (eN F []) := PE.imp (pe_call0 Fo hr hg hm hk hb .nil hx hdb) fun σ H Q h => by
  obtain ⟨G, ρ, ds, ρ', s, e, z⟩ := n_use h
  cases e
  obtain ⟨G1, ds1, r1, s1, rs1, e1, k1⟩ := z [] G H (Nx.refl s) .nil
  exact ⟨by rw [show ([] ++ [] : List V) = [] from rfl, rs1.len]; exact hF _ _ e1, G1, ds1, r1, s1, rs1, e1, k1⟩
/-- lending slot i -/
theorem pd_callR {F : FnR} {jn : Nat} (Fo : FnOk X.prog X.w X.K X.mg X.base CX k f fd ps (spR X.K A F n jn)) (hj : jn = ms.length) (hn : n = ms.length + ms'.length + 1) (hr : Room k X.A) (hg : Gl X x) (hm : X.mg x = some (.ref f)) (hk : PySem.W.keepIn X.K (.ref f) = true) (hb : Binds X.K fd ps []) (hx : Passes CX X E)
    (ha : PA X (e :: es) (liftAR X.K A ms i ms')) (hdb : (x == ("__debug__" : Str)) = false := by decide) (he : starEach (e :: es) X.env = (false, eval e X.env) :: starEach es X.env := by rfl) (hpl : (backTo pos (starEach es X.env)).any (·.1) = false := by rfl) :
    PD A X (.Call (.Name x p) (e :: es) [] pos) (eCallR F ms i ms') := PE.imp (pe_call Fo hr hg hm hk hb .nil hx ha hdb he hpl) fun σ H Q h => by
  obtain ⟨G, ρ, r, ρ', s, e, kk⟩ := h
  obtain ⟨d0, e0, e⟩ := bind_ok e
  obtain ⟨⟨ds, ρ1⟩, e1, e⟩ := bind_ok e
  obtain ⟨⟨es', ρ2⟩, e2, e⟩ := bind_ok e
  obtain ⟨w, hw, _⟩ := look_at s e0
  refine ⟨G, ρ, ds, es', ρ1, ρ2, w, s, e1, e2, hw, fun vs ws G1 H1 n1 r1 r2 => ?_⟩
  dsimp only at e
  split at e
  · rename_i d hd
    obtain ⟨⟨r', d'⟩, e3, e⟩ := bind_ok e
    cases e
    obtain ⟨q, hq, gn, hh⟩ := n1.st.at_ hd
    rw [hw] at hq
    cases hq
    have hlen : ∀ {ms : List Ev} {ρ ρ' : Env} {ds : List D}, evs ms ρ = .ok (ds, ρ') → ds.length = ms.length := fun {ms} => by
      induction ms with
      | nil => intro ρ ρ' ds e; cases e; rfl
      | cons m ms ih =>
        intro ρ ρ' ds e
        obtain ⟨⟨d, ρ0⟩, e0, e⟩ := bind_ok e
        obtain ⟨⟨ds', ρ1'⟩, e3, e⟩ := bind_ok e
        cases e
        rw [List.length_cons, List.length_cons, ih e3]
    have lv : vs.length = jn := by rw [r1.len, hj, hlen e1]
    rw [List.append_nil]
    refine ⟨?_, by omega, G1, ds ++ es', d, q, r', d', n1.st.sub, ?_, ?_, gn, hh, e3, fun v G2 H2 x2 sb2 gn2 hh2 rn => ?_⟩
    · rw [List.length_append, List.length_cons, r1.len, r2.len, hlen e1, hlen e2, hn]; omega
    · rw [List.getElem?_append_right (by omega), lv]; simp
    · rw [List.eraseIdx_append_of_length_le (by omega), lv, Nat.sub_self]
      exact r1.append r2
    · have nl := n1.st.lent hd hw x2 sb2 gn2 hh2
      refine kk v G2 H2 (n1.trans nl) (later n1 ?_)
      have := rn.r n1.st
      unfold RepR at *
      split at this
      · rename_i q
        rw [if_pos q]
        obtain ⟨p, e, h1, h2, h3, h4⟩ := this
        exact ⟨p, e, h1, h2, fun ⟨i', z⟩ => h3 ⟨i', nl.own i' p z⟩, h4⟩
      · rename_i q
        rw [if_neg q]; exact this
  · cases e
/-- lending a new object -/
theorem pd_callT {F : FnR} {jn : Nat} (Fo : FnOk X.prog X.w X.K X.mg X.base CX k f fd ps (spR X.K A F n jn)) (hj : jn = ms.length) (hn : n = ms.length + 1) (hr : Room k X.A) (hg : Gl X x) (hm : X.mg x = some (.ref f)) (hk : PySem.W.keepIn X.K (.ref f) = true) (hb : Binds X.K fd ps []) (hx : Passes CX X E)
    (ha : PA X (e :: es) (liftAT X.K A ms me)) (hdb : (x == ("__debug__" : Str)) = false := by decide) (he : starEach (e :: es) X.env = (false, eval e X.env) :: starEach es X.env := by rfl) (hpl : (backTo pos (starEach es X.env)).any (·.1) = false := by rfl) :
    PD A X (.Call (.Name x p) (e :: es) [] pos) (eCallT F ms me) := PE.imp (pe_call Fo hr hg hm hk hb .nil hx ha hdb he hpl) fun σ H Q h => by
  obtain ⟨G, ρ, r, ρ', s, e, kk⟩ := h
  obtain ⟨⟨ds, ρ1⟩, e1, e⟩ := bind_ok e
  obtain ⟨⟨t, ρ2⟩, e2, e⟩ := bind_ok e
  refine ⟨G, ρ, ds, ρ1, t, ρ2, s, e1, e2, fun vs w G1 H1 n1 r1 rt => ?_⟩
  dsimp only at e
  split at e
  · rename_i ht
    obtain ⟨⟨r', d'⟩, e3, e⟩ := bind_ok e
    cases e
    unfold RepR at rt
    rw [if_pos ht] at rt
    obtain ⟨q, rfl, gn, hh, no, hq⟩ := rt
    have hlen : ∀ {ms : List Ev} {ρ ρ' : Env} {ds : List D}, evs ms ρ = .ok (ds, ρ') → ds.length = ms.length := fun {ms} => by
      induction ms with
      | nil => intro ρ ρ' ds e; cases e; rfl
      | cons m ms ih =>
        intro ρ ρ' ds e
        obtain ⟨⟨d, ρ0⟩, e0, e⟩ := bind_ok e
        obtain ⟨⟨ds', ρ1'⟩, e3, e⟩ := bind_ok e
        cases e
        rw [List.length_cons, List.length_cons, ih e3]
    have lv : vs.length = jn := by rw [r1.len, hj, hlen e1]
    rw [List.append_nil]
    refine ⟨?_, by omega, G1, ds, t.1, q, r', d', n1.st.sub, ?_, ?_, gn, hh, e3, fun v G2 H2 x2 sb2 gn2 hh2 rn => ?_⟩
    · rw [List.length_append, r1.len, hlen e1, hn]; rfl
    · rw [List.getElem?_append_right (by omega), lv]; simp
    · rw [List.eraseIdx_append_of_length_le (by omega), lv, Nat.sub_self]
      simp
      exact r1
    · have st2 := n1.st.lent0 no x2 sb2
      have nn : Nx X.K A σ G H ρ G2 H2 ρ' := ⟨n1.ext.trans x2 fun p z => .inr (z ▸ hq), st2, n1.own⟩
      refine kk v G2 H2 nn (later n1 (rn.r n1.st))
  · cases e
end
end DY

set_option Elab.async false
set_option linter.all false
set_option maxRecDepth 100000
set_option maxHeartbeats 4000000
namespace DY
open PySem L2 PySem.Spec PyProof.Rows
section
variable {X : Cx} {A : CT} {x m : Str} {pos pos' p apos : Pos} {i : Nat} {a e : Expr} {es : List Expr} {ma me : Ev} {ms ks : List Ev} {kws : List Keyword}
variable {CX : CXT} {k n : Nat} {f C : Addr} {fd : FuncData} {ps knm : List Str} {E : XK}
/-! ### C(..) -/
theorem make_use {K : PySem.W.Frag} {init : FnR} {c : Nat} {H : Hp} {Q : VK} {vs : List V} {G : Hp} {ds : List D} {r : Rv} (hc : c ∈ A.cs) (hl : vs.length + 1 = n) (s : Sub G H) (rs : Reps K A G vs ds) (e : mkObj c init ds = .ok r) (kk : ∀ v G' H', Nx0 G H G' H' → RepN K A H G' H' v r → Q v H') :
    ∀ x dx, H x = none → H dx = none → dx ≠ x → spR K A init n 0 (.ref x :: vs) (upd (upd H dx (.own x)) x (.ins (A.ad c) dx [])) (fun v H2 => v = .non ∧ Q (.ref x) H2) E := by
  intro y dx hy hdx hne
  obtain ⟨⟨r0, d'⟩, e1, e⟩ := bind_ok e
  dsimp only at e
  split at e
  · cases e
    have gno : ∀ q, H q = none → G q = none := fun q hq => by
      cases z : G q with
      | none => rfl
      | some u => obtain ⟨o, ho⟩ := s.ex z; rw [hq] at ho; cases ho
    have keepH : ∀ q o, H q = some o → upd (upd H dx (.own y)) y (.ins (A.ad c) dx []) q = some o := fun q o h => by rw [upd_ne (ne_of_none h hy), upd_ne (ne_of_none h hdx)]; exact h
    have s2 : Sub G (upd (upd H dx (.own y)) y (.ins (A.ad c) dx [])) := fun q o h => by
      rcases s q o h with h | ⟨z, ob, h⟩
      · exact .inl (keepH q o h)
      · exact .inr ⟨z, ob, keepH q _ h⟩
    refine ⟨by rw [List.length_cons]; exact hl, by omega, G, ds, .ins c [], y, (.non, false), d', s2, rfl, rs, gno y hy, ⟨dx, [], ?_, Nat.zero_le _, hc, .nil⟩, e1, fun v G' H' x' sb gn hh rn => ?_⟩
    · rw [upd_same, List.zip_nil_right]
    · cases (show Rep K A G' v .non from rn)
      refine ⟨rfl, ?_⟩
      obtain ⟨o, ho, rr⟩ := hh.frz gn
      have g2 : L2.Same G' (upd G' y o) := SL.Same.new gn
      refine kk (.ref y) (upd G' y o) H' ⟨⟨x'.gs.trans g2, fun q hq => ?_, fun q u h _ => x'.hs q u (keepH q u h) (ne_of_none h hy), fun q h => x'.there q ?_⟩, fun q u h => ?_⟩ (RepR.of rr)
      · by_cases z : q = y
        · subst z; exact .inr (.inl hy)
        · rw [upd_ne z] at hq
          rcases x'.fr q hq with w | w | w
          · exact .inl w
          · refine .inr (.inl ?_)
            cases w2 : H q with
            | none => rfl
            | some u => rw [keepH q u w2] at w; cases w
          · exact absurd w z
      · cases w2 : H q with
        | none => exact absurd w2 h
        | some u => rw [keepH q u w2]; exact fun x => nomatch x
      · by_cases z : q = y
        · subst z; rw [upd_same] at h; cases h; exact .inl ho
        · rw [upd_ne z] at h; exact sb q u h
  · cases e
theorem pd_make {init : FnR} {c : Nat} {dvs : List V} {ds : List Value} {dds : List D} (hc : c ∈ A.cs) (hF : ∀ ds d r, init ds d = .ok r → ds.length + 1 = n) (hdd : ∀ G, Reps X.K A G dvs dds) (M : Mk X.K (A.ad c) f) (Fo : FnOk X.prog X.w X.K X.mg X.base CX k f fd ps (spR X.K A init n 0)) (hr : Room (k + 1) X.A) (hg : Gl X x) (hm : X.mg x = some (.ref (A.ad c))) (hb : Binds X.K fd ps ds) (hd : Vals dvs ds) (hx : Passes CX X E)
    (ha : PDA A X (e :: es) ms) (hdb : (x == ("__debug__" : Str)) = false := by decide) (he : starEach (e :: es) X.env = (false, eval e X.env) :: starEach es X.env := by rfl) (hpl : (backTo pos (starEach es X.env)).any (·.1) = false := by rfl) :
    PD A X (.Call (.Name x p) (e :: es) [] pos) (eN (fun xs => mkObj c init (xs ++ dds)) ms) := PE.imp (pe_make M Fo hr hg hm hb hd hx ha hdb he hpl) fun σ H Q h => by
  refine TA_mono (n_use h) fun vs H1 q => ?_
  obtain ⟨G, ds, r, s, rs, e, k⟩ := q
  have rr := rs.append (hdd G)
  refine make_use hc ?_ s rr e k
  obtain ⟨⟨r0, d'⟩, e1, _⟩ := bind_ok e
  rw [rr.len]; exact hF _ _ _ e1
theorem pd_make0 {init : FnR} {c : Nat} {dvs : List V} {ds : List Value} {dds : List D} (hc : c ∈ A.cs) (hF : ∀ ds d r, init ds d = .ok r → ds.length + 1 = n) (hdd : ∀ G, Reps X.K A G dvs dds) (M : Mk X.K (A.ad c) f) (Fo : FnOk X.prog X.w X.K X.mg X.base CX k f fd ps (spR X.K A init n 0)) (hr : Room (k + 1) X.A) (hg : Gl X x) (hm : X.mg x = some (.ref (A.ad c))) (hb : Binds X.K fd ps ds) (hd : Vals dvs ds) (hx : Passes CX X E)
    (hdb : (x == ("__debug__" : Str)) = false := by decide) : PD A X (.Call (.Name x p) [] [] pos) (eN (fun xs => mkObj c init (xs ++ dds)) []) := PE.imp (pe_make0 M Fo hr hg hm hb hd hx hdb) fun σ H Q h => by
  obtain ⟨G, ρ, ds0, ρ', s, e, z⟩ := n_use h
  cases e
  obtain ⟨G1, ds1, r1, s1, rs1, e1, k1⟩ := z [] G H (Nx.refl s) .nil
  cases rs1
  refine make_use hc ?_ s1 (hdd G1) e1 k1
  obtain ⟨⟨r0, d'⟩, e2, _⟩ := bind_ok e1
  rw [List.nil_append, (hdd G1).len]; exact hF _ _ _ e2
/-! ### keywords -/
abbrev PDK (A : CT) (X : Cx) (kws : List Keyword) (ms : List Ev) : Prop := PK X kws (liftA X.K A ms)
theorem PK.imp {X : Cx} {e : List Keyword} {t t' : TA} (h : PK X e t) (k : ∀ σ H Q, t' σ H Q → t σ H Q) : PK X e t' := ⟨fun pos pins s σ H Q I q => h.run pos pins s σ H Q I (k σ H Q q)⟩
theorem pdk_nil : PDK A X [] [] := PK.imp pk_nil fun σ H Q h => by
  obtain ⟨G, ρ, ds, ρ', s, e, k⟩ := h
  cases e
  exact k [] G H (Nx.refl s) .nil
theorem pdk_cons {nm : Option Str} {kpos : Pos} (ha : PD A X a ma) (hr : PDK A X kws ms) : PDK A X (⟨nm, a, kpos⟩ :: kws) (ma :: ms) := PK.imp (pk_cons ha hr) fun _ _ _ => cons_use
/-- the values in the parameters' order, over V and over data -/
structure GV (gV : List V → List V → List V) (g : List D → List D → List D) : Prop where
  rel : ∀ {K : PySem.W.Frag} {A : CT} {G : Hp} {vs zs : List V} {ds es : List D}, Reps K A G vs ds → Reps K A G zs es → Reps K A G (gV vs zs) (g ds es)
theorem evs_len : ∀ {ms : List Ev} {ρ ρ' : Env} {ds : List D}, evs ms ρ = .ok (ds, ρ') → ds.length = ms.length := fun {ms} => by
  induction ms with
  | nil => intro ρ ρ' ds e; cases e; rfl
  | cons m ms ih =>
    intro ρ ρ' ds e
    obtain ⟨⟨d, ρ0⟩, e0, e⟩ := bind_ok e
    obtain ⟨⟨ds', ρ1'⟩, e3, e⟩ := bind_ok e
    cases e
    rw [List.length_cons, List.length_cons, ih e3]
/-- C(.., k = v): the object comes first: g is told without it -/
theorem makeK_use {K : PySem.W.Frag} {init : FnR} {c nm nk : Nat} {gV : List V → List V → List V} {g : List D → List D → List D} {σ : L2.St} {H : Hp} {Q : VK} (hc : c ∈ A.cs) (hF : ∀ ds d r, init ds d = .ok r → ds.length + 1 = n) (hg : GV gV g) {gV' : List V → List V → List V} (hg' : ∀ x vs zs, gV' (x :: vs) zs = x :: gV vs zs) (h1 : nm = ms.length) (h2 : nk = ks.length) (h : liftE K A (eNK (mkObj c init) g ms ks) σ H Q) :
    tMakeK (A.ad c) nm nk (spR K A init n 0) gV' E (liftA K A ms) (liftA K A ks) σ H Q := by
  obtain ⟨G, ρ, r, ρ', s, e, kk⟩ := h
  obtain ⟨⟨xs, ρ1⟩, e1, e⟩ := bind_ok e
  obtain ⟨⟨zs, ρ2⟩, e2, e⟩ := bind_ok e
  obtain ⟨r', e3, e⟩ := bind_ok e
  cases e
  refine ⟨G, ρ, xs, ρ1, s, e1, fun vs G1 H1 n1 r1 => ⟨G1, ρ1, zs, _, n1.st, e2, fun ws G2 H2 n2 r2 => ⟨by rw [r1.len, evs_len e1, h1], by rw [r2.len, evs_len e2, h2], ?_⟩⟩⟩
  intro y dx hy hdx hne
  rw [hg']
  have rr := hg.rel (r1.mono n2.gs) r2
  refine make_use hc ?_ n2.st.sub rr e3 (end_of (n1.trans n2) kk) y dx hy hdx hne
  obtain ⟨⟨r0, d'⟩, e4, _⟩ := bind_ok e3
  rw [rr.len]; exact hF _ _ _ e4
/-! ### o.m(..) -/
theorem isIns_ok {c : Nat} {d : D} {u : Unit} (h : isIns c d = .ok u) : ∃ fs, d = .ins c fs := by
  unfold isIns at h
  split at h
  · split at h
    · rename_i q; subst q; exact ⟨_, rfl⟩
    · cases h
  · cases h
theorem meth_use {K : PySem.W.Frag} {F : Fn} {c : Nat} {σ : L2.St} {H : Hp} {Q : VK} (hm : m ∉ A.nms c) (hF : ∀ ds r, F ds = .ok r → ds.length = n) (h : liftE K A (eMeth c F ma ms) σ H Q) : tMeth (A.ad c) m (spF K A F n) [] E (liftE K A ma) (liftA K A ms) σ H Q := by
  obtain ⟨G, ρ, r, ρ', s, e, kk⟩ := h
  obtain ⟨⟨d, ρ1⟩, e1, e⟩ := bind_ok e
  obtain ⟨_, e2, e⟩ := bind_ok e
  obtain ⟨⟨xs, ρ2⟩, e3, e⟩ := bind_ok e
  obtain ⟨r', e4, e⟩ := bind_ok e
  cases e
  obtain ⟨fs, rfl⟩ := isIns_ok e2
  refine use_val s e1 fun v G1 H1 n1 r1 => ?_
  cases id r1 with
  | ins h l hc rs =>
    refine ⟨_, _, _, rfl, n1.st.sub.ins h, lookup_zip_none hm, G1, ρ1, xs, _, n1.st, e3, fun vs G2 H2 n2 r2 => ?_⟩
    show spF K A F n (_ :: (vs ++ [])) H2 Q E
    rw [List.append_nil]
    have rr := Reps.cons (r1.mono n2.gs) r2
    exact ⟨by rw [rr.len]; exact hF _ _ e4, G2, _, r, n2.st.sub, rr, e4, end_of (n1.trans n2) kk⟩
theorem pd_meth {F : Fn} {c : Nat} (kd : KD X.K A) (hc : c ∈ A.cs) (hmn : m ∉ A.nms c) (hF : ∀ ds r, F ds = .ok r → ds.length = n) (ho : PD A X a ma) (hm : Meth X.K (A.ad c) m f) (Fo : FnOk X.prog X.w X.K X.mg X.base CX k f fd ps (spF X.K A F n)) (hr : Room k X.A) (hb : Binds X.K fd ps []) (hx : Passes CX X E) (ha : PDA A X (e :: es) ms)
    (hp : ∀ {ta : TE} {t : TA}, PE X a ta → PA X (e :: es) t → PE X (.Call (.Attribute a m apos) (e :: es) [] pos) (tMeth (A.ad c) m (spF X.K A F n) [] E ta t)) : PD A X (.Call (.Attribute a m apos) (e :: es) [] pos) (eMeth c F ma ms) := PE.imp (hp ho ha) fun _ _ _ => meth_use hmn hF
theorem methK_use {K : PySem.W.Frag} {F : Fn} {c nm nk : Nat} {gV : List V → List V → List V} {g : List D → List D → List D} {σ : L2.St} {H : Hp} {Q : VK} (hm : m ∉ A.nms c) (hF : ∀ ds r, F ds = .ok r → ds.length = n) (hg : GV gV g) (h1 : nm = ms.length) (h2 : nk = ks.length) (h : liftE K A (eMethK c F g ma ms ks) σ H Q) :
    SL.tMethN (A.ad c) m nm nk (spF K A F n) gV E (liftE K A ma) (liftA K A ms) (liftA K A ks) σ H Q := by
  obtain ⟨G, ρ, r, ρ', s, e, kk⟩ := h
  obtain ⟨⟨d, ρ1⟩, e1, e⟩ := bind_ok e
  obtain ⟨_, e2, e⟩ := bind_ok e
  obtain ⟨⟨xs, ρ2⟩, e3, e⟩ := bind_ok e
  obtain ⟨⟨zs, ρ3⟩, e5, e⟩ := bind_ok e
  obtain ⟨r', e4, e⟩ := bind_ok e
  cases e
  obtain ⟨fs, rfl⟩ := isIns_ok e2
  refine use_val s e1 fun v G1 H1 n1 r1 => ?_
  cases id r1 with
  | ins h l hc rs =>
    refine ⟨_, _, _, rfl, n1.st.sub.ins h, lookup_zip_none hm, G1, ρ1, xs, ρ2, n1.st, e3, fun vs G2 H2 n2 r2 => ⟨G2, ρ2, zs, _, n2.st, e5, fun ws G3 H3 n3 r3 => ⟨by rw [r2.len, evs_len e3, h1], by rw [r3.len, evs_len e5, h2], ?_⟩⟩⟩
    have rr := hg.rel ((Reps.cons (r1.mono n2.gs) r2).mono n3.gs) r3
    exact ⟨by rw [rr.len]; exact hF _ _ e4, G3, _, r, n3.st.sub, rr, e4, end_of ((n1.trans n2).trans n3) kk⟩
/-! ### own operators -/
theorem o_sel {f : Value → Value → Sem Value} {g : D → D → Bool} {h1 h2 : D → D → R Rv} (a : OpR X f (rD X.K A (sel g h1 no2))) (b : OpR X f (rD X.K A h2)) : OpR X f (rD X.K A (sel g h1 h2)) := by
  intro pins s σ H x y v u Q I rx ry h
  obtain ⟨G, d1, d2, r, sb, r1, r2, e, k⟩ := h
  unfold sel at e
  by_cases q : g d1 d2 = true
  · rw [if_pos q] at e
    exact a pins s σ H x y v u Q I rx ry ⟨G, d1, d2, r, sb, r1, r2, by unfold sel; rw [if_pos q]; exact e, k⟩
  · rw [if_neg q] at e
    exact b pins s σ H x y v u Q I rx ry ⟨G, d1, d2, r, sb, r1, r2, e, k⟩
theorem isC_ok {c : Nat} {d : D} (h : isC c d = true) : ∃ fs, d = .ins c fs := by
  unfold isC at h
  split at h
  · have := of_decide_eq_true h
    subst this
    exact ⟨_, rfl⟩
  · cases h
theorem isI_ok {d : D} (h : isI d = true) : ∃ i, d = .int i := by
  unfold isI at h
  split at h
  · exact ⟨_, rfl⟩
  · cases h
theorem sel_ok {g : D → D → Bool} {h1 : D → D → R Rv} {x y : D} {r : Rv} (e : sel g h1 no2 x y = .ok r) : g x y = true ∧ h1 x y = .ok r := by
  unfold sel at e
  by_cases q : g x y = true
  · rw [if_pos q] at e; exact ⟨q, e⟩
  · rw [if_neg q] at e; cases e
theorem sp2 {K : PySem.W.Frag} {F : Fn} {G H : Hp} {Q : VK} {v w : V} {d e : D} {r : Rv} (s : Sub G H) (r1 : Rep K A G v d) (r2 : Rep K A G w e) (h : F [d, e] = .ok r) (k : ∀ v G' H', Nx0 G H G' H' → RepN K A H G' H' v r → Q v H') : spF K A F 2 [v, w] H Q E := ⟨rfl, G, _, r, s, .cons r1 (.cons r2 .nil), h, k⟩
theorem o_cc {op : Operator} {F : Fn} {c : Nat} (hc : PySem.W.selfFirst X.K (A.ad c) = true) (o : SL.OwnOp X.K (A.ad c) f (PySem.dunder op.info.2)) (Fo : FnOk X.prog X.w X.K X.mg X.base CX k f fd ps (spF X.K A F 2)) (hr : Room k X.A) (hb : Binds X.K fd ps []) (hx : Passes CX X E) :
    OpR X (binaryOp op) (rD X.K A (sel (cc c) (fun x y => F [x, y]) no2)) := by
  intro pins s σ H x y v u Q I rx ry h
  obtain ⟨G, d1, d2, r, sb, r1, r2, e, k⟩ := h
  obtain ⟨q, e⟩ := sel_ok e
  unfold cc at q
  rw [Bool.and_eq_true] at q
  obtain ⟨f1, rfl⟩ := isC_ok q.1
  obtain ⟨f2, rfl⟩ := isC_ok q.2
  cases id r1 with
  | ins h1 =>
    cases id r2 with
    | ins h2 => exact SL.op_own2 hc o Fo hr hb hx pins s σ H _ _ v u Q I rx ry ⟨_, _, _, _, _, _, rfl, rfl, sb.ins h1, sb.ins h2, sp2 sb r1 r2 e k⟩
theorem o_ci {op : Operator} {F : Fn} {c : Nat} {fo ro rc : Option Value} (hc : PySem.W.selfFirst X.K (A.ad c) = true) (o : SL.OwnOp X.K (A.ad c) f (PySem.dunder op.info.2)) (Fo : FnOk X.prog X.w X.K X.mg X.base CX k f fd ps (spF X.K A F 2)) (hr : Room k X.A) (hb : Binds X.K fd ps []) (hx : Passes CX X E)
    (hR : PySem.W.findIn X.K (.ref (A.ad c)) (dunderR op.info.2) = some rc) (hp : rc = none ∨ ∃ g : Addr, rc = some (.ref g)) (h1 : PySem.W.findIn X.K (.type "int") (PySem.dunder op.info.2) = some fo) (h2 : PySem.W.findIn X.K (.type "int") (dunderR op.info.2) = some ro)
    (hsub : PySem.W.subIn X.K (.type "int") (.ref (A.ad c)) = some false) : OpR X (binaryOp op) (rD X.K A (sel (ci c) (fun x y => F [x, y]) no2)) := by
  intro pins s σ H x y v u Q I rx ry h
  obtain ⟨G, d1, d2, r, sb, r1, r2, e, k⟩ := h
  obtain ⟨q, e⟩ := sel_ok e
  unfold ci at q
  rw [Bool.and_eq_true] at q
  obtain ⟨f1, rfl⟩ := isC_ok q.1
  obtain ⟨i2, rfl⟩ := isI_ok q.2
  cases id r1 with
  | ins hh1 => cases id r2; exact SL.op_ownI hc o Fo hr hb hx hR hp h1 h2 hsub pins s σ H _ _ v u Q I rx ry ⟨_, _, _, _, rfl, rfl, sb.ins hh1, sp2 sb r1 r2 e k⟩
theorem o_ic {op : Operator} {F : Fn} {c : Nat} (hop : OpR X (binaryOp op) (SL.rRefl (A.ad c) (spF X.K A F 2) E)) : OpR X (binaryOp op) (rD X.K A (sel (ic c) (fun x y => F [y, x]) no2)) := by
  intro pins s σ H x y v u Q I rx ry h
  obtain ⟨G, d1, d2, r, sb, r1, r2, e, k⟩ := h
  obtain ⟨q, e⟩ := sel_ok e
  unfold ic at q
  rw [Bool.and_eq_true] at q
  obtain ⟨i1, rfl⟩ := isI_ok q.1
  obtain ⟨f2, rfl⟩ := isC_ok q.2
  cases id r1
  cases id r2 with
  | ins hh => exact hop pins s σ H _ _ v u Q I rx ry ⟨_, _, _, _, rfl, rfl, sb.ins hh, sp2 sb r2 r1 e k⟩
theorem hasTy_ok {d : D} (h : hasTy d = true) : ∃ t, tyD A d = some t := by
  cases d <;> first | exact ⟨_, rfl⟩ | cases h
theorem nf_D {K : PySem.W.Frag} {G : Hp} {v : V} {d : D} {t : Value} {c : Nat} (kd : KD K A) (hc : c ∈ A.cs) (r : Rep K A G v d) (e : tyD A d = some t) : PySem.W.notFirst K (A.ad c) t = true := by
  have nf := (kd.cf _ hc).nf
  cases r with
  | ins h l c' q => cases e; exact kd.nn _ hc _ c'
  | _ => first | (cases e; done) | (cases e; exact nf _ (by simp))
/-- own == -/
theorem o_eqC {F : Fn} {c : Nat} (kd : KD X.K A) (hc : c ∈ A.cs) (o : SL.OwnOp X.K (A.ad c) f "__eq__") (Fo : FnOk X.prog X.w X.K X.mg X.base CX k f fd ps (spF X.K A F 2)) (hr : Room k X.A) (hb : Binds X.K fd ps []) (hx : Passes CX X E) :
    OpR X (compareOp .Eq) (rD X.K A (sel (cany c) (fun x y => F [x, y]) no2)) := by
  intro pins s σ H x y v u Q I rx ry h
  obtain ⟨G, d1, d2, r, sb, r1, r2, e, k⟩ := h
  obtain ⟨q, e⟩ := sel_ok e
  unfold cany at q
  rw [Bool.and_eq_true] at q
  obtain ⟨f1, rfl⟩ := isC_ok q.1
  obtain ⟨t, ht⟩ := hasTy_ok (A := A) q.2
  cases id r1 with
  | ins hh => exact SL.op_eqOwn o Fo hr hb hx pins s σ H _ _ v u Q I rx ry ⟨_, _, _, t, rfl, sb.ins hh, rep_ty kd sb r2 ht, nf_D kd hc r2 ht, sp2 sb r1 r2 e k⟩
theorem o_neC {F : Fn} {c : Nat} (kd : KD X.K A) (hc : c ∈ A.cs) (o : SL.OwnOp X.K (A.ad c) f "__eq__") (hne : PySem.W.findIn X.K (.ref (A.ad c)) "__ne__" = some (some (.builtin "object.__ne__"))) (hob : PySem.W.subIn X.K (.ref (A.ad c)) (.type "object") = some true) (Fo : FnOk X.prog X.w X.K X.mg X.base CX k f fd ps (spF X.K A F 2)) (hr : Room (k + 1) X.A) (hb : Binds X.K fd ps []) (hx : Passes CX X E) :
    OpR X (compareOp .NotEq) (rD X.K A (neOf (sel (cany c) (fun x y => F [x, y]) no2))) := by
  intro pins s σ H x y v u Q I rx ry h
  obtain ⟨G, d1, d2, r, sb, r1, r2, e, kk⟩ := h
  obtain ⟨⟨r0, fr⟩, e1, e⟩ := bind_ok e
  obtain ⟨b, e2, e⟩ := bind_ok e
  cases e
  obtain ⟨q, e1⟩ := sel_ok e1
  unfold cany at q
  rw [Bool.and_eq_true] at q
  obtain ⟨f1, rfl⟩ := isC_ok q.1
  obtain ⟨t, ht⟩ := hasTy_ok (A := A) q.2
  obtain rfl := isB_ok e2
  cases id r1 with
  | ins hh =>
    refine SL.op_neOwn o hne hob Fo hr hb hx pins s σ H _ _ v u Q I rx ry ⟨_, _, _, t, rfl, sb.ins hh, rep_ty kd sb r2 ht, nf_D kd hc r2 ht, sp2 sb r1 r2 e1 fun v' G' H' n0 rn => ?_⟩
    have : fr = false := by
      cases fr with
      | false => rfl
      | true => obtain ⟨p, _, _, z, _⟩ := rn; exact z.elim
    subst this
    cases (show Rep X.K A G' v' (.bl b) from rn)
    exact ⟨b, rfl, kk _ G' H' n0 (RepR.of (.bl _))⟩
theorem o_eqI {F : Fn} {c : Nat} (o : SL.OwnOp X.K (A.ad c) f "__eq__") (hsub : PySem.W.subIn X.K (.ref (A.ad c)) (.type "int") = some false) (Fo : FnOk X.prog X.w X.K X.mg X.base CX k f fd ps (spF X.K A F 2)) (hr : Room k X.A) (hb : Binds X.K fd ps []) (hx : Passes CX X E) :
    OpR X (compareOp .Eq) (rD X.K A (sel (ic c) (fun x y => F [y, x]) no2)) := by
  intro pins s σ H x y v u Q I rx ry h
  obtain ⟨G, d1, d2, r, sb, r1, r2, e, k⟩ := h
  obtain ⟨q, e⟩ := sel_ok e
  unfold ic at q
  rw [Bool.and_eq_true] at q
  obtain ⟨i1, rfl⟩ := isI_ok q.1
  obtain ⟨f2, rfl⟩ := isC_ok q.2
  cases id r1
  cases id r2 with
  | ins hh => exact SL.op_eqRefl o hsub Fo hr hb hx pins s σ H _ _ v u Q I rx ry ⟨_, _, _, _, rfl, rfl, sb.ins hh, sp2 sb r2 r1 e k⟩
theorem neOf_sel {g : D → D → Bool} {h1 h2 : D → D → R Rv} (a : OpR X (compareOp .NotEq) (rD X.K A (neOf (sel g h1 no2)))) (b : OpR X (compareOp .NotEq) (rD X.K A (neOf h2))) : OpR X (compareOp .NotEq) (rD X.K A (neOf (sel g h1 h2))) := by
  intro pins s σ H x y v u Q I rx ry h
  obtain ⟨G, d1, d2, r, sb, r1, r2, e, k⟩ := h
  unfold neOf sel at e
  by_cases q : g d1 d2 = true
  · rw [if_pos q] at e
    exact a pins s σ H x y v u Q I rx ry ⟨G, d1, d2, r, sb, r1, r2, by unfold neOf sel; rw [if_pos q]; exact e, k⟩
  · rw [if_neg q] at e
    exact b pins s σ H x y v u Q I rx ry ⟨G, d1, d2, r, sb, r1, r2, e, k⟩
/-- -own -/
theorem o_negC {F : Fn} {c : Nat} (o : SL.OwnOp X.K (A.ad c) f "__neg__") (Fo : FnOk X.prog X.w X.K X.mg X.base CX k f fd ps (spF X.K A F 1)) (hr : Room k X.A) (hb : Binds X.K fd ps []) (hx : Passes CX X E) :
    UnR X (unaryOp .USub) (rDu X.K A (sel1 (isC c) (fun x => F [x]) no1)) := by
  intro pins s σ H x v Q I rx h
  obtain ⟨G, d1, r, sb, r1, e, k⟩ := h
  unfold sel1 at e
  by_cases q : isC c d1 = true
  · rw [if_pos q] at e
    obtain ⟨f1, rfl⟩ := isC_ok q
    cases id r1 with
    | ins hh => exact SL.un_own o Fo hr hb hx pins s σ H _ v Q I rx ⟨_, _, _, rfl, sb.ins hh, rfl, G, _, r, sb, .cons r1 .nil, e, k⟩
  · rw [if_neg q] at e; cases e
theorem o_sel1 {f : Value → Sem Value} {g : D → Bool} {h1 h2 : D → R Rv} (a : UnR X f (rDu X.K A (sel1 g h1 no1))) (b : UnR X f (rDu X.K A h2)) : UnR X f (rDu X.K A (sel1 g h1 h2)) := by
  intro pins s σ H x v Q I rx h
  obtain ⟨G, d1, r, sb, r1, e, k⟩ := h
  unfold sel1 at e
  by_cases q : g d1 = true
  · rw [if_pos q] at e
    exact a pins s σ H x v Q I rx ⟨G, d1, r, sb, r1, by unfold sel1; rw [if_pos q]; exact e, k⟩
  · rw [if_neg q] at e
    exact b pins s σ H x v Q I rx ⟨G, d1, r, sb, r1, e, k⟩
/-- str(own) -/
theorem o_strC {F : Fn} {c : Nat} (o : SL.OwnOp X.K (A.ad c) f "__str__") (Fo : FnOk X.prog X.w X.K X.mg X.base CX k f fd ps (spF X.K A F 1)) (hr : Room (k + 2) X.A) (hb : Binds X.K fd ps []) (hx : Passes CX X E) (hs : ∀ x r, F x = .ok r → ∃ l, r = (.str l, false)) :
    CallR X (.type "str") (fun xs H Q => ∃ x, xs = [x] ∧ rDu X.K A (sel1 (isC c) (fun x => F [x]) no1) x H Q) := by
  intro pins s σ H xs us Q I r0 h
  obtain ⟨x, rfl, G, d1, r, sb, r1, e, k⟩ := h
  unfold sel1 at e
  by_cases q : isC c d1 = true
  · rw [if_pos q] at e
    obtain ⟨f1, rfl⟩ := isC_ok q
    cases id r1 with
    | ins hh =>
      refine SL.call_strOwn o Fo hr hb hx pins s σ H _ us Q I r0 ⟨_, _, _, rfl, sb.ins hh, rfl, G, _, r, sb, .cons r1 .nil, e, fun v G' H' n0 rn => ?_⟩
      obtain ⟨l, rfl⟩ := hs _ _ e
      have rn0 := rn
      cases (show Rep X.K A G' v (.str l) from rn)
      exact ⟨_, rfl, k _ G' H' n0 rn0⟩
  · rw [if_neg q] at e; cases e
end
end DY

set_option Elab.async false
set_option linter.all false
set_option maxRecDepth 100000
set_option maxHeartbeats 4000000
namespace DY
open PySem L2 PySem.Spec PyProof.Rows
/-! ### targets -/
section
variable (K : PySem.W.Frag) (A : CT)
def liftG (ws : List Nat) (g : Tg) : TG := fun v σ H Q => ∃ G ρ d ρ', St K A σ G H ρ ∧ Rep K A G v d ∧ g d ρ = .ok ρ' ∧ ∀ σ', St K A σ' G H ρ' → (∀ i p, Own σ' ρ' i p → Own σ ρ i p) → σ'.length = σ.length → (∀ i, i ∉ ws → σ'[i]? = σ[i]?) → Q σ' H
def liftGs (ws : List Nat) (gs : List Tg) : TGs := fun vs σ H Q => ∃ G ρ ds ρ', St K A σ G H ρ ∧ Reps K A G vs ds ∧ gGo gs ds ρ = .ok ρ' ∧ ∀ σ', St K A σ' G H ρ' → (∀ i p, Own σ' ρ' i p → Own σ ρ i p) → σ'.length = σ.length → (∀ i, i ∉ ws → σ'[i]? = σ[i]?) → Q σ' H
end
section
variable {X : Cx} {A : CT} {pos : Pos}
theorem PG.imp {X : Cx} {e : Expr} {t t' : TG} (h : PG X e t) (k : ∀ v σ H Q, t' v σ H Q → t v σ H Q) : PG X e t' := ⟨fun pins s σ H v u Q I r q => h.run pins s σ H v u Q I r (k v σ H Q q)⟩
theorem PGs.imp {X : Cx} {e : List Expr} {t t' : TGs} (h : PGs X e t) (k : ∀ v σ H Q, t' v σ H Q → t v σ H Q) : PGs X e t' := ⟨fun pins s σ H v u Q I r q => h.run pins s σ H v u Q I r (k v σ H Q q)⟩
theorem pdg_name {i : Nat} {x : Str} (h : PG X (.Name x pos) (gName i)) : PG X (.Name x pos) (liftG X.K A [i] (gN i)) := PG.imp h fun v σ H Q q => by
  obtain ⟨G, ρ, d, ρ', s, r, e, k⟩ := q
  cases e
  exact k _ (s.store r).1 (fun k p z => ((s.store r).2 k p z).1) (List.length_set ..) fun k hk => List.getElem?_set_ne fun z => hk (by simp [z])
theorem pdgs_nil : PGs X [] (liftGs X.K A [] []) := PGs.imp pgs_nil fun v σ H Q q => by
  obtain ⟨G, ρ, d, ρ', s, r, e, k⟩ := q
  unfold gGo at e
  split at e
  · cases e; cases r; exact ⟨rfl, k σ s (fun _ _ z => z) rfl fun _ _ => rfl⟩
  · rename_i h; cases h
  · cases e
theorem pdgs_cons {e : Expr} {es : List Expr} {g : Tg} {gs : List Tg} {ws ws' : List Nat} (h1 : PG X e (liftG X.K A ws g)) (h2 : PGs X es (liftGs X.K A ws' gs))
    (hs : (assignEach (e :: es) X.env).map (·.2) = assign e X.env :: (assignEach es X.env).map (·.2) := by rfl) : PGs X (e :: es) (liftGs X.K A (ws ++ ws') (g :: gs)) := PGs.imp (pgs_cons h1 h2 hs) fun v σ H Q q => by
  obtain ⟨G, ρ, ds, ρ', s, r, e, k⟩ := q
  cases ds with
  | nil => unfold gGo at e; cases e
  | cons d ds =>
    obtain ⟨ρ1, e1, e⟩ := bind_ok e
    cases r with
    | cons r1 r2 =>
      refine ⟨_, _, rfl, G, ρ, d, ρ1, s, r1, e1, fun σ1 s1 o1 l1 w1 => ⟨G, ρ1, ds, ρ', s1, r2, e, fun σ2 s2 o2 l2 w2 => k σ2 s2 (fun i p z => o1 i p (o2 i p z)) (l2.trans l1) fun i hi => ?_⟩⟩
      rw [w2 i fun z => hi (List.mem_append_right _ z), w1 i fun z => hi (List.mem_append_left _ z)]
theorem gGo_len : ∀ {gs : List Tg} {ds : List D} {ρ ρ' : Env}, gGo gs ds ρ = .ok ρ' → ds.length = gs.length
  | [], [], _, _, _ => rfl
  | [], _ :: _, _, _, e => by unfold gGo at e; cases e
  | _ :: _, [], _, _, e => by unfold gGo at e; cases e
  | g :: gs, d :: ds, ρ, ρ', e => by
    obtain ⟨ρ1, e1, e⟩ := bind_ok e
    rw [List.length_cons, List.length_cons, gGo_len e]
theorem pdg_tup {es : List Expr} {k : Nat} {gs : List Tg} {ws : List Nat} (hc : X.calm = true) (h : PGs X es (liftGs X.K A ws gs))
    (hn : (assignEach es X.env).length = gs.length := by rfl) (hst : (assignEach es X.env).findIdx? (·.1) = none := by rfl) : PG X (.Tuple es k pos) (liftG X.K A ws (gT gs)) := PG.imp (pg_tup hc h hn hst) fun v σ H Q q => by
  obtain ⟨G, ρ, d, ρ', s, r, e, k⟩ := q
  unfold gT at e
  split at e
  · obtain ⟨p, vs, rfl, h1, q1⟩ := r.sqT s.sub
    exact ⟨p, vs, rfl, h1, by rw [q1.len]; exact gGo_len e, G, ρ, _, ρ', s, q1, e, k⟩
  · obtain ⟨p, vs, rfl, h1, q1⟩ := r.sqK s.sub
    exact ⟨p, vs, rfl, SqT.of h1, by rw [q1.len]; exact gGo_len e, G, ρ, _, ρ', s, q1, e, k⟩
  · cases e
/-- target = e -/
theorem pds_asgT {tg e : Expr} {me : Ev} {g : Tg} {ws : List Nat} {j : Option Nat} (he : PD A X e me) (hg : PG X tg (liftG X.K A ws g)) (hs : swapsWithSole [tg] e pos.line X.env = pure false := by rfl) (hw : swappedStores [tg] e X.env = pure none := by rfl)
    (h1 : (assignEach [tg] X.env).map (·.2) = [assign tg X.env] := by rfl) : PDS A j X (.Assign [tg] e pos) (sAsgT g me) := PS.imp (ps_asg he hg hs hw h1) fun D σ H h => by
  obtain ⟨B, G, ρ, o, ρ', s, e, k⟩ := h
  obtain ⟨⟨x, ρ1⟩, e1, e⟩ := bind_ok e
  obtain ⟨ρ2, e2, e⟩ := bind_ok e
  cases e
  refine use_val s.st e1 fun v G1 H1 n r => ?_
  have s1 := s.step n
  exact ⟨G1, ρ1, x, _, n.st, r, e2, fun σ' st' ow _ _ => k σ' G1 H1 ⟨st', s1.ext, fun i p z => s1.own i p (ow i p z)⟩⟩
end
/-! ### what is walked -/
section
variable (K : PySem.W.Frag) (A : CT)
def WalkD (Φ : Hp → Hp → Prop) (J : It) (ds : List D) : Prop := ∃ (Gd : Hp → Prop) (Y : Nat → Hp → V → Hp → Prop), Walk J ds.length Gd Y ∧ (∀ G H, Φ G H → Gd H) ∧
  ∀ i G H x H', i < ds.length → Φ G H → Y i H x H' → ∃ G2 d, Nx0 G H G2 H' ∧ ds[i]? = some d ∧ Rep K A G2 x d
/-- what is shared stays -/
def Keep (G0 : Hp) (G H : Hp) : Prop := L2.Same G0 G ∧ Sub G H
def liftI (m : Iv) : TI := fun σ H R => ∃ G ρ ds ρ', St K A σ G H ρ ∧ m ρ = .ok (ds, ρ') ∧ ∀ J G' H', Nx K A σ G H ρ G' H' ρ' → WalkD K A (Keep G') J ds → R J H'
end
abbrev PDI (A : CT) (X : Cx) (tg e : Expr) (m : Iv) : Prop := PI X tg e (liftI X.K A m)
section
variable {K : PySem.W.Frag} {A : CT} {G G' : Hp} {X : Cx} {tg e : Expr} {me : Ev} {p pos : Pos}
theorem walkD_at {J : It} {ds : List D} {vs : List V} {Gd : Hp → Prop} (w : Walk J vs.length Gd (YAt vs)) (hg : ∀ G H, L2.Same G' G → Sub G H → Gd H) (r : Reps K A G' vs ds) : WalkD K A (Keep G') J ds := by
  refine ⟨Gd, YAt vs, by rw [← r.len]; exact w, fun G H k => hg G H k.1 k.2, fun i G H x H' hi ⟨g, s⟩ y => ?_⟩
  obtain ⟨rfl, hx⟩ := y
  obtain ⟨d, h1, h2⟩ := r.get hx
  exact ⟨G, d, Nx0.refl s, h1, h2.mono g⟩
theorem pdi_val (he : PD A X e me) : PDI A X tg e (iVal me) := ⟨fun pins s σ H R I h => by
  obtain ⟨G, ρ, ds, ρ', st, e, k⟩ := h
  obtain ⟨⟨x, ρ1⟩, e1, e⟩ := bind_ok e
  obtain ⟨ds', e2, e⟩ := bind_ok e
  cases e
  unfold items at e2
  split at e2
  · cases e2
    refine (pi_list he).run pins s σ H R I (use_val st e1 fun v G1 H1 n r => ?_)
    cases r with | lst h q =>
    exact ⟨_, rfl, ⟨_, SqL.of (n.st.sub.lst h)⟩, k _ G1 H1 n (walkD_at walk_list (fun G H g s => SqL.of (s.lst (g _ _ h))) q)⟩
  · cases e2
    refine (pi_list he).run pins s σ H R I (use_val st e1 fun v G1 H1 n r => ?_)
    cases r with | fls h q =>
    exact ⟨_, rfl, ⟨_, n.st.sub.sqL h⟩, k _ G1 H1 n (walkD_at walk_list (fun G H g s => s.sqL (sqL_same g h)) q)⟩
  · cases e2
    refine (pi_tup he).run pins s σ H R I (use_val st e1 fun v G1 H1 n r => ?_)
    cases r with
    | tup nd h q => exact ⟨_, rfl, ⟨_, .inl (.inr ⟨_, n.st.sub.frt h⟩)⟩, k _ G1 H1 n (walkD_at walk_tup (fun G H g s => .inl (.inr ⟨_, s.frt (g _ _ h)⟩)) q)⟩
    | emp a b c d => exact ⟨_, rfl, ⟨_, sqT_emp a b d⟩, k _ G1 H1 n (walkD_at (vs := []) walk_tup (fun G H g s => sqT_emp a b d) .nil)⟩
  · rename_i l
    cases e2
    refine (pi_str he).run pins s σ H R I (use_val st e1 fun v G1 H1 n r => ?_)
    cases r
    refine ⟨_, rfl, k _ G1 H1 n ⟨_, _, by rw [List.length_map, show l.length = (S l).cps.size by simp [S]]; exact walk_str, fun _ _ _ => trivial, fun i G H x H' hi ⟨g, s⟩ y => ?_⟩⟩
    obtain ⟨rfl, c, hc, rfl⟩ := y
    have hc' : l[i]? = some c := by
      have : l.toArray[i]? = some c := hc
      simpa using this
    exact ⟨G, .str [c], Nx0.refl s, by rw [List.getElem?_map, hc']; rfl, .str [c]⟩
  · cases e2⟩
theorem rng_get : ∀ {n : Nat} {lo : Int} {i : Nat}, i < n → (rng lo n)[i]? = some (.int (lo + i))
  | 0, _, _, h => by omega
  | n + 1, lo, 0, _ => by show some (D.int lo) = _; simp
  | n + 1, lo, i + 1, h => by
    show (rng (lo + 1) n)[i]? = _
    rw [rng_get (by omega)]
    congr 2
    omega
theorem rng_len : ∀ {n : Nat} {lo : Int}, (rng lo n).length = n
  | 0, _ => rfl
  | n + 1, lo => by show (rng (lo + 1) n).length + 1 = _; rw [rng_len]
theorem walkD_rng {lo : Int} {n : Nat} : WalkD K A (Keep G) (Itr lo n) (rng lo n) := ⟨_, _, by rw [rng_len]; exact walk_range, fun _ _ _ => trivial, fun i G H x H' hi ⟨g, s⟩ y => by
  obtain ⟨rfl, rfl⟩ := y
  rw [rng_len] at hi
  exact ⟨G, _, Nx0.refl s, rng_get hi, .int _⟩⟩
theorem pdi_range1 {a : Expr} {ma : Ev} (hg : Gl X "range") (hm : X.mg "range" = none) (ha : PDA A X [a] [ma]) (hs : starEach [a] X.env = [(false, eval a X.env)] := by rfl) : PDI A X tg (.Call (.Name "range" p) [a] [] pos) (iRange [ma]) := ⟨fun pins s σ H R I h => (pi_range1 hg hm ha hs).run pins s σ H R I (by
  obtain ⟨G, ρ, ds, ρ', st, e, k⟩ := h
  obtain ⟨⟨xs, ρ1⟩, e1, e⟩ := bind_ok e
  refine ⟨G, ρ, xs, ρ1, st, e1, fun vs G1 H1 n r => ?_⟩
  dsimp only at e
  split at e
  · split at e
    · rename_i q
      cases e
      obtain ⟨v, rfl, rq⟩ := r.inv1
      cases rq
      exact ⟨_, rfl, q.1, q.2, k _ G1 H1 n walkD_rng⟩
    · cases e
  · have := evs_len e1; cases this
  · cases e)⟩
theorem pdi_range2 {a b : Expr} {ma mb : Ev} (hg : Gl X "range") (hm : X.mg "range" = none) (ha : PDA A X [a, b] [ma, mb]) (hs : starEach [a, b] X.env = [(false, eval a X.env), (false, eval b X.env)] := by rfl) (hs2 : starEach [b] X.env = [(false, eval b X.env)] := by rfl) : PDI A X tg (.Call (.Name "range" p) [a, b] [] pos) (iRange [ma, mb]) := ⟨fun pins s σ H R I h => (pi_range2 hg hm ha hs hs2).run pins s σ H R I (by
  obtain ⟨G, ρ, ds, ρ', st, e, k⟩ := h
  obtain ⟨⟨xs, ρ1⟩, e1, e⟩ := bind_ok e
  refine ⟨G, ρ, xs, ρ1, st, e1, fun vs G1 H1 n r => ?_⟩
  dsimp only at e
  split at e
  · have := evs_len e1; cases this
  · split at e
    · rename_i q
      cases e
      obtain ⟨v, w, rfl, r1, r2⟩ := r.inv2
      cases r1; cases r2
      exact ⟨_, _, rfl, ⟨q.1.1, q.1.2, q.2.1, q.2.2⟩, k _ G1 H1 n walkD_rng⟩
    · cases e
  · cases e)⟩
end
/-! ### for, while -/
section
variable {K : PySem.W.Frag} {A : CT} {j : Option Nat} {B : Bs} {G G' G1 G2 H H' H1 H2 : Hp} {σ σ' : L2.St} {ρ ρ1 ρ2 ρ' : Env}
theorem StF.rebase (s : StF K A j B σ G H ρ) : StF K A j { B with G := G } σ G H ρ := ⟨s.st, ⟨fun _ _ z => z, fun _ z => .inl z, s.ext.hs, s.ext.there⟩, s.own⟩
theorem StF.unbase (s : StF K A j B σ G1 H1 ρ1) (s' : StF K A j { B with G := G1 } σ' G' H' ρ') : StF K A j B σ' G' H' ρ' :=
  ⟨s'.st, ⟨s.ext.gs.trans s'.ext.gs, fun p z => (s'.ext.fr p z).elim (fun w => s.ext.fr p w) .inr, s'.ext.hs, s'.ext.there⟩, s'.own⟩
theorem forGo_cons {g : Tg} {body : Sv} {d : D} {ds : List D} {o : Out} (e : forGo g body (d :: ds) ρ = .ok (o, ρ')) : ∃ ρa ob ρb, g d ρ = .ok ρa ∧ body ρa = .ok (ob, ρb) ∧ ((ob = .nx ∨ ob = .ct) ∧ forGo g body ds ρb = .ok (o, ρ') ∨ (ob = .bk ∧ o = .nx ∧ ρ' = ρb) ∨ ∃ r, ob = .rt r ∧ o = .rt r ∧ ρ' = ρb) := by
  obtain ⟨ρa, e1, e⟩ := bind_ok e
  obtain ⟨⟨ob, ρb⟩, e2, e⟩ := bind_ok e
  refine ⟨ρa, ob, ρb, e1, e2, ?_⟩
  cases ob with
  | nx => exact .inl ⟨.inl rfl, e⟩
  | ct => exact .inl ⟨.inr rfl, e⟩
  | bk => cases e; exact .inr (.inl ⟨rfl, rfl, rfl⟩)
  | rt r => cases e; exact .inr (.inr ⟨r, rfl, rfl, rfl⟩)
theorem for_main {Φ : Hp → Hp → Prop} {J : It} {ds : List D} {ws : List Nat} {g : Tg} {body : Sv} {D : Ends} {o : Out} (s1 : StF K A j B σ G1 H1 ρ1) (wd : WalkD K A Φ J ds) (hΦ : ∀ σ' G' H' ρ', StF K A j { B with G := G1 } σ' G' H' ρ' → Φ G' H') (e : forGo g body ds ρ1 = .ok (o, ρ')) (k : SOut K A j B D o ρ') :
    ∃ W : Nat → Nat → L2.St → Hp → Prop, (∃ m, W 0 m σ H1) ∧ ∀ i m σ H, W i m σ H →
      (J.stop i H ∧ D.nx σ H) ∨ (J.go i H ∧ ∃ N : L2.St → Hp → Prop, (∀ σ' H', N σ' H' → ∃ m', m' < m ∧ W (i + 1) m' σ' H') ∧ ∀ x H', J.yld i H x H' → liftG K A ws g x σ H' fun σ2 H2 => liftS K A j body { D with nx := N, ct := N, bk := D.nx } σ2 H2) := by
  obtain ⟨Gd, Y, w, hG, hY⟩ := wd
  refine for_it w (fun i σ' H' => ∃ G' ρi, StF K A j { B with G := G1 } σ' G' H' ρi ∧ forGo g body (ds.drop i) ρi = .ok (o, ρ')) ⟨G1, ρ1, s1.rebase, e⟩ ?_ ?_ ?_
  · rintro i σ' H' _ ⟨G', ρi, s', _⟩
    exact hG G' H' (hΦ _ _ _ _ s')
  · rintro i x σ' H2 H3 hi ⟨G', ρi, s', e'⟩ y
    obtain ⟨G2, d, n0, hd, rx⟩ := hY i G' H2 x H3 hi (hΦ _ _ _ _ s') y
    have s2 := s'.step (s'.st.nx0 n0)
    rw [List.drop_eq_getElem_cons hi, (List.getElem?_eq_some_iff.mp hd).2] at e'
    obtain ⟨ρa, ob, ρb, ea, eb, ec⟩ := forGo_cons e'
    refine ⟨G2, ρi, d, ρa, s2.st, rx, ea, fun σ3 st3 ow3 _ _ => ⟨{ B with G := G1 }, G2, ρa, ob, ρb, ⟨st3, s2.ext, fun i p z => s2.own i p (ow3 i p z)⟩, eb, ?_⟩⟩
    rcases ec with ⟨hob, ec⟩ | ⟨rfl, rfl, rfl⟩ | ⟨r, rfl, rfl, rfl⟩
    · rcases hob with rfl | rfl
      · exact fun σ4 G4 H4 s4 => ⟨G4, ρb, s4, ec⟩
      · exact fun σ4 G4 H4 s4 => ⟨G4, ρb, s4, ec⟩
    · exact fun σ4 G4 H4 s4 => k σ4 G4 H4 (s1.unbase s4)
    · exact fun v σ4 G4 H4 s4 hr => k v σ4 G4 H4 (s1.unbase s4) hr
  · rintro σ' H' ⟨G', ρi, s', e'⟩
    rw [List.drop_length] at e'
    cases e'
    exact k σ' G' H' (s1.unbase s')
theorem for_use {it : Iv} {ws : List Nat} {g : Tg} {body : Sv} {D : Ends} (h : liftS K A j (sFor it g body) D σ H) : tFor (liftI K A it) (liftG K A ws g) (liftS K A j body) D σ H := by
  obtain ⟨B, G, ρ, o, ρ', s, e, k⟩ := h
  obtain ⟨⟨ds, ρ1⟩, e1, e⟩ := bind_ok e
  exact ⟨G, ρ, ds, ρ1, s.st, e1, fun J G1 H1 n wd => for_main (s.step n) wd (fun _ _ _ _ s' => ⟨s'.ext.gs, s'.st.sub⟩) e k⟩
theorem while_use {t : Ev} {body : Sv} {D : Ends} (h : liftS K A j (sWhile t body) D σ H) : tWhile (liftT K A t) (liftS K A j body) D σ H := by
  obtain ⟨B, G, ρ, o, ρ', s, e, k⟩ := h
  refine ⟨fun m σ' H' => ∃ G' ρm, StF K A j B σ' G' H' ρm ∧ whileGo t body m ρm = .ok (o, ρ'), ⟨fuel, G, ρ, s, e⟩, ?_⟩
  rintro m σ' H' ⟨G', ρm, s', e'⟩
  cases m with
  | zero => cases e'
  | succ m =>
    obtain ⟨⟨x, ρ1⟩, e1, e'⟩ := bind_ok (show (val t ρm >>= fun y => isB y.1 >>= fun c => if c then body y.2 >>= fun z => (match z.1 with | .nx => whileGo t body m z.2 | .ct => whileGo t body m z.2 | .bk => .ok (.nx, z.2) | .rt r => .ok (.rt r, z.2)) else .ok (.nx, y.2)) = .ok (o, ρ') from e')
    obtain ⟨c, e2, e'⟩ := bind_ok e'
    cases isB_ok e2
    refine ⟨G', ρm, c, ρ1, s'.st, e1, fun G1 H1 n => ?_⟩
    have s1 := s'.step n
    cases c with
    | false =>
      cases e'
      exact iteF (k σ' G1 H1 s1)
    | true =>
      refine iteT ⟨fun σ2 H2 => ∃ m', m' < m + 1 ∧ ∃ G2 ρ2, StF K A j B σ2 G2 H2 ρ2 ∧ whileGo t body m' ρ2 = .ok (o, ρ'), fun _ _ z => z, ?_⟩
      obtain ⟨⟨ob, ρb⟩, e3, e'⟩ := bind_ok (show (body ρ1 >>= fun z => (match z.1 with | .nx => whileGo t body m z.2 | .ct => whileGo t body m z.2 | .bk => .ok (.nx, z.2) | .rt r => .ok (.rt r, z.2))) = .ok (o, ρ') from e')
      refine ⟨B, G1, ρ1, ob, ρb, s1, e3, ?_⟩
      cases ob with
      | nx => exact fun σ4 G4 H4 s4 => ⟨m, Nat.lt_succ_self m, G4, ρb, s4, e'⟩
      | ct => exact fun σ4 G4 H4 s4 => ⟨m, Nat.lt_succ_self m, G4, ρb, s4, e'⟩
      | bk => cases e'; exact fun σ4 G4 H4 s4 => k σ4 G4 H4 s4
      | rt r => cases e'; exact fun v σ4 G4 H4 s4 hr => k v σ4 G4 H4 s4 hr
end
section
variable {X : Cx} {A : CT} {j : Option Nat} {tg iter c : Expr} {body : List Stmt} {m : Sv} {mi : Iv} {g : Tg} {ws : List Nat} {mc : Ev} {pos : Pos}
theorem pds_for (hp : PassesOwn (model X.prog X.w) X.A X.env X.xe) (hc : X.calm = true) (hi : PDI A X tg iter mi) (hg : PG X tg (liftG X.K A ws g)) (hb : PDSs A j X body m)
    (hs : ∀ x, foldedSetIterable iter X.env x = pure x := by intro _; rfl) : PDS A j X (.For tg iter body [] pos) (sFor mi g m) := PS.imp (ps_for hp hc hi hg hb hs) fun D σ H => for_use
theorem pds_while (hp : PassesOwn (model X.prog X.w) X.A X.env X.xe) (hc : PDT A X c mc) (hb : PDSs A j X body m) : PDS A j X (.While c body [] pos) (sWhile mc m) := PS.imp (ps_while hp hc hb) fun D σ H => while_use
end
end DY

set_option Elab.async false
set_option linter.all false
set_option maxRecDepth 100000
set_option maxHeartbeats 4000000
/-! ### comprehensions -/
namespace DY
open PySem L2 PySem.Spec PyProof.Rows
section
variable {K : PySem.W.Frag} {A : CT} {G G' G1 G2 H H' H1 H2 : Hp} {σ σ' σ2 : L2.St} {ρ ρ1 ρ2 ρ' : Env}
theorem St.un1 {i : Nat} (s : St K A σ G H ρ) : St K A (σ.set i none) G H (ρ.set i .un) ∧ ∀ k p, Own (σ.set i none) (ρ.set i .un) k p → Own σ ρ k p := by
  have ow : ∀ k p, Own (σ.set i none) (ρ.set i .un) k p → Own σ ρ k p := fun k p ⟨⟨d, h1⟩, h2⟩ => by
    by_cases e : i = k
    · subst e
      rw [List.getElem?_set_self'] at h1
      cases q : ρ[i]? with
      | none => rw [q] at h1; cases h1
      | some x => rw [q] at h1; cases (Option.some.inj h1)
    · rw [List.getElem?_set_ne e] at h1 h2
      exact ⟨⟨d, h1⟩, h2⟩
  refine ⟨⟨s.sub, by rw [List.length_set, List.length_set]; exact s.len, fun k z hz => ?_, fun a b p ha hb => s.dist a b p (ow a p ha) (ow b p hb)⟩, ow⟩
  by_cases e : i = k
  · subst e
    rw [List.getElem?_set_self'] at hz
    cases q : ρ[i]? with
    | none => rw [q] at hz; cases hz
    | some x => rw [q] at hz; cases (Option.some.inj hz); trivial
  · rw [List.getElem?_set_ne e] at hz
    have := s.slot k z hz
    rw [List.getD_eq_getElem?_getD, List.getElem?_set_ne e, ← List.getD_eq_getElem?_getD]
    exact this
theorem St.wipe : ∀ (vs : List Nat) {σ : L2.St} {ρ : Env}, St K A σ G H ρ → St K A (L2.wipe σ vs) G H (wipeS ρ vs) ∧ ∀ k p, Own (L2.wipe σ vs) (wipeS ρ vs) k p → Own σ ρ k p
  | [], _, _, s => ⟨s, fun _ _ z => z⟩
  | v :: vs, σ, ρ, s => by
    obtain ⟨s1, o1⟩ := St.wipe vs s
    obtain ⟨s2, o2⟩ := s1.un1 (i := v)
    exact ⟨s2, fun k p z => o1 k p (o2 k p z)⟩
theorem wipe_out : ∀ {vs : List Nat} {k : Nat}, k ∉ vs → (L2.wipe σ vs)[k]? = σ[k]?
  | [], _, _ => rfl
  | v :: vs, k, h => by
    show ((L2.wipe σ vs).set v none)[k]? = _
    rw [List.getElem?_set_ne fun z => h (by simp [z])]
    exact wipe_out fun z => h (List.mem_cons_of_mem _ z)
theorem wipe_in : ∀ {vs : List Nat} {k : Nat}, k ∈ vs → k < σ.length → (L2.wipe σ vs)[k]? = some none
  | v :: vs, k, h, hk => by
    show ((L2.wipe σ vs).set v none)[k]? = _
    by_cases e : v = k
    · subst e; rw [List.getElem?_set_self (by rw [wipe_length]; exact hk)]
    · rw [List.getElem?_set_ne e]
      exact wipe_in ((List.mem_cons.mp h).resolve_left fun z => e z.symm) hk
theorem wipeS_len : ∀ {vs : List Nat}, (wipeS ρ vs).length = ρ.length
  | [] => rfl
  | v :: vs => by show ((wipeS ρ vs).set v .un).length = _; rw [List.length_set, wipeS_len]
theorem wipeS_out : ∀ {vs : List Nat} {k : Nat}, k ∉ vs → (wipeS ρ vs)[k]? = ρ[k]?
  | [], _, _ => rfl
  | v :: vs, k, h => by
    show ((wipeS ρ vs).set v .un)[k]? = _
    rw [List.getElem?_set_ne fun z => h (by simp [z])]
    exact wipeS_out fun z => h (List.mem_cons_of_mem _ z)
theorem backS_len : ∀ {vs : List Nat}, (backS ρ1 ρ vs).length = ρ.length
  | [] => rfl
  | v :: vs => by show ((backS ρ1 ρ vs).set v _).length = _; rw [List.length_set, backS_len]
theorem backS_out : ∀ {vs : List Nat} {k : Nat}, k ∉ vs → (backS ρ1 ρ vs)[k]? = ρ[k]?
  | [], _, _ => rfl
  | v :: vs, k, h => by
    show ((backS ρ1 ρ vs).set v _)[k]? = _
    rw [List.getElem?_set_ne fun z => h (by simp [z])]
    exact backS_out fun z => h (List.mem_cons_of_mem _ z)
theorem backS_in : ∀ {vs : List Nat} {k : Nat} {z : Slot}, k ∈ vs → (backS ρ1 ρ vs)[k]? = some z → z = ρ1.getD k .un
  | v :: vs, k, z, h, hz => by
    have hz : ((backS ρ1 ρ vs).set v (ρ1.getD v .un))[k]? = some z := hz
    by_cases e : v = k
    · subst e
      rw [List.getElem?_set_self'] at hz
      cases q : (backS ρ1 ρ vs)[v]? with
      | none => rw [q] at hz; cases hz
      | some x => rw [q] at hz; exact (Option.some.inj hz).symm
    · rw [List.getElem?_set_ne e] at hz
      exact backS_in ((List.mem_cons.mp h).resolve_left fun z => e z.symm) hz
theorem wipe_eq {vs : List Nat} (hl : σ2.length = σ.length) (h : ∀ i, i ∉ vs → σ2[i]? = (L2.wipe σ vs)[i]?) : L2.wipe σ2 vs = L2.wipe σ vs := by
  refine List.ext_getElem? fun k => ?_
  by_cases e : k ∈ vs
  · by_cases hk : k < σ.length
    · rw [wipe_in e (by rw [hl]; exact hk), wipe_in e hk]
    · rw [List.getElem?_eq_none (by rw [wipe_length, hl]; omega), List.getElem?_eq_none (by rw [wipe_length]; omega)]
  · rw [wipe_out e, h k e]
theorem noOw_ok {vs : List Nat} (h : noOw ρ vs = true) {k : Nat} (hk : k ∈ vs) : ∃ z, ρ[k]? = some z ∧ ∀ d, z ≠ .ow d := by
  have := List.all_eq_true.mp h k hk
  cases q : ρ[k]? with
  | none => rw [q] at this; cases this
  | some z =>
    rw [q] at this
    refine ⟨z, rfl, fun d e => ?_⟩
    subst e; cases this
/-- a pending new object -/
theorem pend {p : Addr} {d : D} (no : ¬ OwnS σ ρ p) (g : G p = none) (h : Has K A G H p d) (n : Nx K A σ G H ρ G' H' ρ') : G' p = none ∧ Has K A G' H' p d := by
  refine ⟨?_, h.mono n.gs fun o z => n.ext.hs p o z no⟩
  cases z : G' p with
  | none => rfl
  | some u =>
    rcases n.ext.fr p (by rw [z]; exact fun x => nomatch x) with z | z | z
    · exact absurd g z
    · obtain ⟨o, ho⟩ := h.ex; rw [ho] at z; cases z
    · exact absurd z no
theorem pend0 {p : Addr} {d : D} (g : G p = none) (h : Has K A G H p d) (n : Nx0 G H G' H') : G' p = none ∧ Has K A G' H' p d := by
  refine ⟨?_, h.mono n.ext.gs fun o z => n.ext.hs p o z id⟩
  cases z : G' p with
  | none => rfl
  | some u =>
    rcases n.ext.fr p (by rw [z]; exact fun x => nomatch x) with z | z | z
    · exact absurd g z
    · obtain ⟨o, ho⟩ := h.ex; rw [ho] at z; cases z
    · exact z.elim
theorem St.updP {p : Addr} {o : HO} (s : St K A σ G H ρ) (g : G p = none) (no : ¬ OwnS σ ρ p) : St K A σ G (upd H p o) ρ := by
  refine ⟨fun q u z => ?_, s.len, fun k z hz => ?_, s.dist⟩
  · have ne : q ≠ p := fun e => by subst e; rw [g] at z; cases z
    rw [upd_ne ne]; exact s.sub q u z
  · have q := s.slot k z hz
    cases z with
    | un => trivial
    | sh d => exact q
    | ow d =>
      obtain ⟨p2, e1, n1, h1⟩ := q
      have ne : p2 ≠ p := fun z => no ⟨k, ⟨d, hz⟩, z ▸ getD_some e1⟩
      exact ⟨p2, e1, n1, h1.mono (fun _ _ z => z) fun u z => by rw [upd_ne ne]; exact z⟩
variable (K A) in
/-- while a comprehension runs: its new object stands at P and bears d -/
structure LI (σ : L2.St) (G1 H1 : Hp) (ρ1 : Env) (vs : List Nat) (P : Addr) (G H : Hp) (ρi : Env) (d : D) : Prop where
  ext : Ext (OwnS σ ρ1) G1 H1 G H
  st : St K A (L2.wipe σ vs) G H (wipeS ρi vs)
  own : ∀ k p, Own (L2.wipe σ vs) (wipeS ρi vs) k p → Own σ ρ1 k p
  gP : G P = none
  hP : Has K A G H P d
variable {vs : List Nat} {P : Addr} {d : D} {ρi : Env}
theorem LI.no (l : LI K A σ G1 H1 ρ1 vs P G H ρi d) (s1 : St K A σ G1 H1 ρ1) (hP : H1 P = none) : ∀ k, ¬ Own σ ρ1 k P := fun k z => OwnS.there s1 ⟨k, z⟩ hP
/-- one turn: target, test, element; o is the new object -/
theorem LI.turn {ρa ρb : Env} {G2 H2 G3 H3 : Hp} {d' : D} {o : HO} (l : LI K A σ G1 H1 ρ1 vs P G H ρi d) (s1 : St K A σ G1 H1 ρ1) (hP : H1 P = none) (n0 : Nx0 G H G2 H2) (hl : σ2.length = σ.length) (hw : ∀ i, i ∉ vs → σ2[i]? = (L2.wipe σ vs)[i]?)
    (ow : ∀ k p, Own σ2 ρa k p → Own (L2.wipe σ vs) (wipeS ρi vs) k p) (n : Nx K A σ2 G2 H2 ρa G3 H3 ρb) (new : Has K A G3 (upd H3 P o) P d') : LI K A σ G1 H1 ρ1 vs P G3 (upd H3 P o) ρb d' := by
  have noP : ¬ OwnS σ2 ρa P := fun ⟨k, z⟩ => l.no s1 hP k (l.own k P (ow k P z))
  have p2 := pend0 l.gP l.hP n0
  have p3 := pend noP p2.1 p2.2 n
  have noPb : ¬ OwnS σ2 ρb P := fun ⟨k, z⟩ => noP ⟨k, n.own k P z⟩
  have e1 := l.ext.trans n0.ext fun _ z => z.elim
  have e2 := e1.trans n.ext fun p ⟨k, z⟩ => .inl ⟨k, l.own k p (ow k p z)⟩
  obtain ⟨sw, ow2⟩ := St.wipe vs (n.st.updP (o := o) p3.1 noPb)
  rw [wipe_eq hl hw] at sw ow2
  refine ⟨⟨e2.gs, e2.fr, fun q u z nn => ?_, fun q z => ?_⟩, sw, fun k p z => l.own k p (ow k p (n.own k p (ow2 k p z))), p3.1, new⟩
  · have ne : q ≠ P := ne_of_none z hP
    rw [upd_ne ne]; exact e2.hs q u z nn
  · by_cases e : q = P
    · subst e; rw [upd_same]; exact fun x => nomatch x
    · rw [upd_ne e]; exact e2.there q z
theorem LI.skip {ρa ρb : Env} {G2 H2 G3 H3 : Hp} (l : LI K A σ G1 H1 ρ1 vs P G H ρi d) (s1 : St K A σ G1 H1 ρ1) (hP : H1 P = none) (n0 : Nx0 G H G2 H2) (hl : σ2.length = σ.length) (hw : ∀ i, i ∉ vs → σ2[i]? = (L2.wipe σ vs)[i]?)
    (ow : ∀ k p, Own σ2 ρa k p → Own (L2.wipe σ vs) (wipeS ρi vs) k p) (n : Nx K A σ2 G2 H2 ρa G3 H3 ρb) : LI K A σ G1 H1 ρ1 vs P G3 H3 ρb d := by
  have noP : ¬ OwnS σ2 ρa P := fun ⟨k, z⟩ => l.no s1 hP k (l.own k P (ow k P z))
  have p2 := pend0 l.gP l.hP n0
  have p3 := pend noP p2.1 p2.2 n
  have e1 := l.ext.trans n0.ext fun _ z => z.elim
  have e2 := e1.trans n.ext fun p ⟨k, z⟩ => .inl ⟨k, l.own k p (ow k p z)⟩
  obtain ⟨sw, ow2⟩ := St.wipe vs n.st
  rw [wipe_eq hl hw] at sw ow2
  exact ⟨e2, sw, fun k p z => l.own k p (ow k p (n.own k p (ow2 k p z))), p3.1, p3.2⟩
theorem LI.begin {o : HO} (s1 : St K A σ G1 H1 ρ1) (hP : H1 P = none) (new : Has K A G1 (upd H1 P o) P d) : LI K A σ G1 H1 ρ1 vs P G1 (upd H1 P o) ρ1 d := by
  have gP := (upd_nx0 (o := o) s1.sub hP).2
  obtain ⟨sw, ow⟩ := St.wipe vs (s1.updP (o := o) gP fun z => OwnS.there s1 z hP)
  refine ⟨⟨fun _ _ z => z, fun _ z => .inl z, fun q u z _ => by rw [upd_ne (ne_of_none z hP)]; exact z, fun q z => ?_⟩, sw, ow, gP, new⟩
  by_cases e : q = P
  · subst e; rw [upd_same]; exact fun x => nomatch x
  · rw [upd_ne e]; exact z
theorem LI.done (l : LI K A σ G1 H1 ρ1 vs P G H ρi d) (s1 : St K A σ G1 H1 ρ1) (hP : H1 P = none) (no : noOw ρ1 vs = true) (n1 : Nx K A σ G' H' ρ' G1 H1 ρ1) : Nx K A σ G' H' ρ' G H (backS ρ1 ρi vs) ∧ RepR K A (OwnS σ (backS ρ1 ρi vs)) H' G H (.ref P) (d, true) := by
  have hlen : (wipeS ρi vs).length = σ.length := by have := l.st.len; rw [wipe_length] at this; exact this.symm
  have inn : ∀ k ∈ vs, ∀ z, (backS ρ1 ρi vs)[k]? = some z → SlotOk K A G H (σ.getD k none) z ∧ ∀ d, z ≠ .ow d := fun k hk z hz => by
    obtain ⟨y, h1, h2⟩ := noOw_ok no hk
    have e := backS_in hk hz
    rw [List.getD_eq_getElem?_getD, h1] at e
    have e : z = y := e
    subst e
    refine ⟨?_, h2⟩
    have q := s1.slot k z h1
    cases z with
    | un => trivial
    | sh d => obtain ⟨v, a, b⟩ := q; exact ⟨v, a, b.mono l.ext.gs⟩
    | ow d => exact absurd rfl (h2 d)
  have out : ∀ k, k ∉ vs → ∀ p, Own σ (backS ρ1 ρi vs) k p → Own (L2.wipe σ vs) (wipeS ρi vs) k p := fun k hk p ⟨⟨d, h1⟩, h2⟩ => by
    rw [backS_out hk] at h1
    exact ⟨⟨d, by rw [wipeS_out hk]; exact h1⟩, by rw [wipe_out hk]; exact h2⟩
  have ow : ∀ k p, Own σ (backS ρ1 ρi vs) k p → Own (L2.wipe σ vs) (wipeS ρi vs) k p := fun k p z => by
    by_cases hk : k ∈ vs
    · obtain ⟨⟨d, h1⟩, _⟩ := z
      exact absurd rfl ((inn k hk _ h1).2 d)
    · exact out k hk p z
  have st : St K A σ G H (backS ρ1 ρi vs) := by
    refine ⟨l.st.sub, by rw [backS_len, ← wipeS_len (vs := vs)]; exact hlen.symm, fun k z hz => ?_, fun a b p ha hb => l.st.dist a b p (ow a p ha) (ow b p hb)⟩
    by_cases hk : k ∈ vs
    · exact (inn k hk z hz).1
    · rw [backS_out hk] at hz
      have := l.st.slot k z (by rw [wipeS_out hk]; exact hz)
      rw [List.getD_eq_getElem?_getD, wipe_out hk, ← List.getD_eq_getElem?_getD] at this
      exact this
  have nn : Nx K A σ G1 H1 ρ1 G H (backS ρ1 ρi vs) := ⟨l.ext, st, fun k p z => l.own k p (ow k p z)⟩
  refine ⟨n1.trans nn, later n1 (RepR.new l.gP l.hP (fun ⟨k, z⟩ => l.no s1 hP k (l.own k P (ow k P z))) hP)⟩
variable (K A) in
def liftC : Option Ev → TT
  | none => tYes
  | some m => liftT K A m
theorem cond_use {c : Option Ev} {b : Bool} {RR : Bool → Hp → Prop} (s : St K A σ G H ρ) (e : cond c ρ = .ok (b, ρ')) (k : ∀ G' H', Nx K A σ G H ρ G' H' ρ' → RR b H') : liftC K A c σ H RR := by
  cases c with
  | none => cases e; exact k G H (Nx.refl s)
  | some t =>
    obtain ⟨⟨x, ρ2⟩, e1, e⟩ := bind_ok e
    obtain ⟨b', e2, e⟩ := bind_ok e
    cases e
    obtain rfl := isB_ok e2
    exact ⟨G, ρ, b, _, s, e1, k⟩
theorem lcGo_cons {g : Tg} {c : Option Ev} {e : Ev} {ds acc accE : List D} {x : D} {ρE : Env} (h : lcGo g c e vs (x :: ds) acc ρ = .ok (accE, ρE)) : ∃ ρa b ρb, g x (wipeS ρ vs) = .ok ρa ∧ cond c ρa = .ok (b, ρb) ∧
    ((b = true ∧ ∃ y ρc, val e ρb = .ok (y, ρc) ∧ lcGo g c e vs ds (acc ++ [y]) ρc = .ok (accE, ρE)) ∨ (b = false ∧ lcGo g c e vs ds acc ρb = .ok (accE, ρE))) := by
  obtain ⟨ρa, e1, h⟩ := bind_ok h
  obtain ⟨⟨b, ρb⟩, e2, h⟩ := bind_ok h
  refine ⟨ρa, b, ρb, e1, e2, ?_⟩
  cases b with
  | true =>
    obtain ⟨⟨y, ρc⟩, e3, h⟩ := bind_ok (show (val e ρb >>= fun z => lcGo g c e vs ds (acc ++ [z.1]) z.2) = .ok (accE, ρE) from h)
    exact .inl ⟨rfl, y, ρc, e3, h⟩
  | false => exact .inr ⟨rfl, h⟩
theorem lc_main {Φ : Hp → Hp → Prop} {J : It} {ds accE : List D} {ρE : Env} {ws : List Nat} {g : Tg} {c : Option Ev} {e : Ev} {Q : VK} (hws : ∀ i ∈ ws, i ∈ vs) (s1 : St K A σ G1 H1 ρ1) (wd : WalkD K A Φ J ds) (hΦ : ∀ G H, Ext (OwnS σ ρ1) G1 H1 G H → Sub G H → Φ G H) (hno : noOw ρ1 vs = true) (hlen : ds.length ≤ 1000) (e2 : lcGo g c e vs ds [] ρ1 = .ok (accE, ρE))
    (k : ∀ v G' H', Nx K A σ G1 H1 ρ1 G' H' (backS ρ1 ρE vs) → RepR K A (OwnS σ (backS ρ1 ρE vs)) H1 G' H' v (.lst accE, true) → Q v H') :
    ∀ D, H1 D = none → ∃ W : Nat → Nat → Hp → Prop, (∃ m, W 0 m (upd H1 D (.lst []))) ∧ ∀ i m H, W i m H →
      (J.stop i H ∧ Q (.ref D) H) ∨ (J.go i H ∧ ∃ Nx : Hp → Prop, (∀ H', Nx H' → ∃ m', m' < m ∧ W (i + 1) m' H') ∧ ∀ x H', J.yld i H x H' → liftG K A ws g x (L2.wipe σ vs) H' fun σ2 H2 => L2.wipe σ2 vs = L2.wipe σ vs ∧ liftC K A c σ2 H2 fun b H3 =>
        if b = true then liftE K A e σ2 H3 fun y H4 => ∃ acc, H4 D = some (.lst acc) ∧ acc.length < sizeLine ∧ Nx (upd H4 D (.lst (acc ++ [y]))) else Nx H3) := by
  intro P hP
  obtain ⟨Gd, Y, w, hG, hY⟩ := wd
  refine lc_it w (Qd := fun H => Q (.ref P) H) (fun i H' => ∃ G' ρi acc, LI K A σ G1 H1 ρ1 vs P G' H' ρi (.lst acc) ∧ acc.length ≤ i ∧ lcGo g c e vs (ds.drop i) acc ρi = .ok (accE, ρE)) ⟨G1, ρ1, [], LI.begin s1 hP ⟨[], upd_same, .nil⟩, Nat.le_refl _, e2⟩ ?_ ?_ ?_
  · rintro i H' _ ⟨G', ρi, acc, l, _⟩
    exact hG G' H' (hΦ _ _ l.ext l.st.sub)
  · rintro i x H2 H3 hi ⟨G2, ρi, acc, l, hl, e2⟩ y
    obtain ⟨G3, d, n0, hd, rx⟩ := hY i G2 H2 x H3 hi (hΦ _ _ l.ext l.st.sub) y
    rw [List.drop_eq_getElem_cons hi, (List.getElem?_eq_some_iff.mp hd).2] at e2
    obtain ⟨ρa, b, ρb, ea, eb, ec⟩ := lcGo_cons e2
    refine ⟨G3, wipeS ρi vs, d, ρa, (l.st.nx0 n0).st, rx, ea, fun σ2 st2 ow2 hl2 hw2 => ?_⟩
    have hl2' : σ2.length = σ.length := by rw [hl2, wipe_length]
    have hw2' : ∀ i, i ∉ vs → σ2[i]? = (L2.wipe σ vs)[i]? := fun i hi => hw2 i fun z => hi (hws i z)
    refine ⟨wipe_eq hl2' hw2', cond_use st2 eb fun G4 H4 n4 => ?_⟩
    rcases ec with ⟨rfl, yv, ρc, ey, ec⟩ | ⟨rfl, ec⟩
    · refine iteT (use_val n4.st ey fun v G5 H5 n5 r5 => ?_)
      have n45 := n4.trans n5
      have noP : ¬ OwnS σ2 ρa P := fun ⟨k, z⟩ => l.no s1 hP k (l.own k P (ow2 k P z))
      have p3 := pend0 l.gP l.hP n0
      obtain ⟨gP, avs, hv, ra⟩ := pend noP p3.1 p3.2 n45
      exact ⟨avs, hv, small1000 (by rw [ra.len]; omega), G5, ρc, acc ++ [yv], l.turn s1 hP n0 hl2' hw2' ow2 n45 ⟨_, upd_same, ra.append (.cons r5 .nil)⟩, by rw [List.length_append]; exact Nat.succ_le_succ hl, ec⟩
    · exact iteF ⟨G4, ρb, acc, l.skip s1 hP n0 hl2' hw2' ow2 n4, Nat.le_succ_of_le hl, ec⟩
  · rintro H2 ⟨G2, ρi, acc, l, _, e2⟩
    rw [List.drop_length] at e2
    cases e2
    obtain ⟨nn, rr⟩ := l.done s1 hP hno (Nx.refl s1)
    exact k _ G2 H2 nn rr
theorem eLc_ok {it : Iv} {g : Tg} {c : Option Ev} {e : Ev} {r : Rv} (h : eLc it g c e vs ρ = .ok (r, ρ')) : ∃ ds ρ1 accE ρE, it ρ = .ok (ds, ρ1) ∧ noOw ρ1 vs = true ∧ ds.length ≤ 1000 ∧ lcGo g c e vs ds [] ρ1 = .ok (accE, ρE) ∧ r = (.lst accE, true) ∧ ρ' = backS ρ1 ρE vs := by
  obtain ⟨⟨ds, ρ1⟩, e1, h⟩ := bind_ok h
  dsimp only at h
  split at h
  · rename_i hno
    rw [Bool.and_eq_true] at hno
    obtain ⟨⟨accE, ρE⟩, e2, h⟩ := bind_ok h
    cases h
    exact ⟨ds, ρ1, accE, ρE, e1, hno.1, of_decide_eq_true hno.2, e2, rfl, rfl⟩
  · cases h
theorem lc_use {it : Iv} {ws : List Nat} {g : Tg} {c : Option Ev} {e : Ev} {Q : VK} (hws : ∀ i ∈ ws, i ∈ vs) (h : liftE K A (eLc it g c e vs) σ H Q) : tLc (liftI K A it) (liftG K A ws g) (liftC K A c) (liftE K A e) vs σ H Q := by
  obtain ⟨G, ρ, r, ρ', s, e0, k⟩ := h
  obtain ⟨ds, ρ1, accE, ρE, e1, hno, hlen, e2, rfl, rfl⟩ := eLc_ok e0
  exact ⟨G, ρ, ds, ρ1, s, e1, fun J G1 H1 n1 wd => lc_main hws n1.st wd (fun _ _ x y => ⟨x.gs, y⟩) hno hlen e2 fun v G' H' nn rr => k v G' H' (n1.trans nn) (later n1 rr)⟩
/-! ### the keys of a dict -/
theorem keys_walk {Φ : Hp → Hp → Prop} {p : Addr} {ob : Obj} {kv : List (Key × V)} {kvs : List (Ky × D)} (r : RepK K A G kv kvs) (h1 : ∀ G' H', Φ G' H' → Keep G G' H') (hf : ∀ G' H', Φ G' H' → H' p = some (.frz ob (.dK kv))) : WalkD K A Φ (Itk p ob kv) (kvs.map fun kv => kyD kv.1) := by
  refine ⟨_, _, by rw [List.length_map, ← r.len]; exact walk_keys, hf, fun i G' H' x H2 hi g y => ?_⟩
  obtain ⟨rfl, k, v, hk, rfl⟩ := y
  have : Reps K A G' (kv.map fun kv => kV kv.1) (kvs.map fun kv => kyD kv.1) := reps_keys (r.mono (h1 _ _ g).1)
  obtain ⟨d, h1', h2⟩ := this.get (i := i) (v := kV k) (by rw [List.getElem?_map, hk]; rfl)
  exact ⟨G', d, Nx0.refl (h1 _ _ g).2, h1', h2⟩
theorem iKeys_ok {i : Nat} {ds : List D} (s : St K A σ G H ρ) (h : iKeys i ρ = .ok (ds, ρ')) : ∃ p kv kvs G2, σ[i]? = some (some (.ref p)) ∧ Nx K A σ G H ρ G2 H ρ' ∧ G2 p = some (.dK kv) ∧ RepK K A G2 kv kvs ∧ ds = kvs.map fun kv => kyD kv.1 := by
  unfold iKeys at h
  split at h
  · rename_i kvs hk
    cases h
    obtain ⟨v, e, r⟩ := s.slot i _ hk
    cases r with
    | dic h1 h2 => exact ⟨_, _, kvs, G, getD_some e, Nx.refl s, h1, h2, rfl⟩
  · rename_i kvs hk
    cases h
    obtain ⟨p, G2, e, n, r⟩ := s.give hk
    cases r with
    | dic h1 h2 => exact ⟨_, _, kvs, G2, e, n, h1, h2, rfl⟩
  · cases h
/-- the walked dict is known meanwhile -/
theorem St.lock {p : Addr} {ob : Obj} {kv : List (Key × V)} (s : St K A σ G H ρ) (hp : G p = some (.dK kv)) : St K A σ G (upd H p (.frz ob (.dK kv))) ρ := by
  refine ⟨fun q u z => ?_, s.len, fun k z hz => ?_, s.dist⟩
  · by_cases e : q = p
    · subst e
      rw [hp] at z; cases z
      exact .inr ⟨trivial, ob, upd_same⟩
    · rw [upd_ne e]; exact s.sub q u z
  · have q := s.slot k z hz
    cases z with
    | un => trivial
    | sh d => exact q
    | ow d =>
      obtain ⟨p2, e1, n1, h1⟩ := q
      have ne : p2 ≠ p := fun e => by subst e; rw [n1] at hp; cases hp
      exact ⟨p2, e1, n1, h1.mono (fun _ _ z => z) fun u z => by rw [upd_ne ne]; exact z⟩
theorem St.unlock {p : Addr} {kv : List (Key × V)} (s : St K A σ G H ρ) (hp : G p = some (.dK kv)) : St K A σ G (upd H p (.dK kv)) ρ := by
  refine ⟨fun q u z => ?_, s.len, fun k z hz => ?_, s.dist⟩
  · by_cases e : q = p
    · subst e
      rw [hp] at z; cases z
      exact .inl upd_same
    · rw [upd_ne e]; exact s.sub q u z
  · have q := s.slot k z hz
    cases z with
    | un => trivial
    | sh d => exact q
    | ow d =>
      obtain ⟨p2, e1, n1, h1⟩ := q
      have ne : p2 ≠ p := fun e => by subst e; rw [n1] at hp; cases hp
      exact ⟨p2, e1, n1, h1.mono (fun _ _ z => z) fun u z => by rw [upd_ne ne]; exact z⟩
theorem lcK_use {i : Nat} {ws : List Nat} {g : Tg} {c : Option Ev} {e : Ev} {Q : VK} (hws : ∀ i ∈ ws, i ∈ vs) (h : liftE K A (eLc (iKeys i) g c e vs) σ H Q) :
    tLc (L2.iKeys (tVar i)) (liftG K A ws g) (liftC K A c) (liftE K A e) vs σ H Q ∨ tLockE (tLc (L2.iKeys (tVar i)) (liftG K A ws g) (liftC K A c) (liftE K A e) vs) σ H Q := by
  obtain ⟨G, ρ, r, ρ', s, e0, k⟩ := h
  obtain ⟨ds, ρ1, accE, ρE, e1, hno, hlen, e2, rfl, rfl⟩ := eLc_ok e0
  obtain ⟨p, kv, kvs, G1, hσ, n1, hp, rk, rfl⟩ := iKeys_ok s e1
  rcases n1.st.sub p _ hp with hH | ⟨_, ob, hH⟩
  · refine .inr ⟨p, _, hH, trivial, fun od => ⟨_, hσ, p, od, rfl, .inl ⟨kv, upd_same, ?_⟩⟩⟩
    have sl := n1.st.lock (ob := od) hp
    have noP : ¬ OwnS σ ρ1 p := fun ⟨k', z⟩ => by have := (z.has n1.st).1; rw [hp] at this; cases this
    have fz : ∀ G' H', Ext (OwnS σ ρ1) G1 (upd H p (.frz od (.dK kv))) G' H' → H' p = some (.frz od (.dK kv)) := fun G' H' x => x.hs p _ upd_same noP
    refine lc_main (Φ := fun G' H' => Ext (OwnS σ ρ1) G1 (upd H p (.frz od (.dK kv))) G' H' ∧ Sub G' H') (Q := fun v H' => H' p = some (.frz od (.dK kv)) ∧ Q v (upd H' p (.dK kv))) hws sl (keys_walk rk (fun G' H' x => ⟨x.1.gs, x.2⟩) fun G' H' x => fz G' H' x.1) (fun _ _ x y => ⟨x, y⟩) hno hlen e2 fun v G' H' nn rr => ⟨fz G' H' nn.ext, ?_⟩
    have gp : G' p = some (.dK kv) := nn.gs _ _ hp
    have n2 : Nx K A σ G1 H ρ1 G' (upd H' p (.dK kv)) (backS ρ1 ρE vs) := by
      refine ⟨⟨nn.gs, fun q hq => ?_, fun q u z no => ?_, fun q z => ?_⟩, nn.st.unlock gp, nn.own⟩
      · rcases nn.ext.fr q hq with w | w | w
        · exact .inl w
        · refine .inr (.inl ?_)
          by_cases e : q = p
          · subst e; rw [upd_same] at w; cases w
          · rw [upd_ne e] at w; exact w
        · exact .inr (.inr w)
      · by_cases e : q = p
        · subst e; rw [hH] at z; cases z; exact upd_same
        · rw [upd_ne e]; exact nn.ext.hs q u (by rw [upd_ne e]; exact z) no
      · by_cases e : q = p
        · subst e; rw [upd_same]; exact fun x => nomatch x
        · rw [upd_ne e]; exact nn.ext.there q (by rw [upd_ne e]; exact z)
    refine k v G' _ (n1.trans n2) (later n1 ?_)
    obtain ⟨q, e, a1, a2, a3, a4⟩ := rr
    have ne : q ≠ p := fun z => by subst z; rw [a1] at gp; cases gp
    exact ⟨q, e, a1, a2.mono (fun _ _ z => z) fun o z => by rw [upd_ne ne]; exact z, a3, by rw [upd_ne ne] at a4; exact a4⟩
  · refine .inl ⟨_, hσ, p, ob, rfl, .inl ⟨kv, hH, ?_⟩⟩
    have noP : ¬ OwnS σ ρ1 p := fun ⟨k', z⟩ => by have := (z.has n1.st).1; rw [hp] at this; cases this
    exact lc_main (Φ := fun G' H' => Ext (OwnS σ ρ1) G1 H G' H' ∧ Sub G' H') (Q := Q) hws n1.st (keys_walk rk (fun G' H' x => ⟨x.1.gs, x.2⟩) fun G' H' x => x.1.hs p _ hH noP) (fun _ _ x y => ⟨x, y⟩) hno hlen e2 fun v G' H' nn rr => k v G' H' (n1.trans nn) (later n1 rr)
/-! for over the keys -/
theorem StF.lock {j : Option Nat} {B : Bs} {p : Addr} {ob : Obj} {kv : List (Key × V)} (s : StF K A j B σ G H ρ) (hp : G p = some (.dK kv)) : StF K A j { G := G, H := upd B.H p (.frz ob (.dK kv)), O := if B.O = some p then none else B.O } σ G (upd H p (.frz ob (.dK kv))) ρ := by
  have gne : ∀ i q, Own σ ρ i q → q ≠ p := fun i q z e => by subst e; have := (z.has s.st).1; rw [hp] at this; cases this
  refine ⟨s.st.lock hp, ⟨fun _ _ z => z, fun _ z => .inl z, fun q u z no => ?_, fun q z => ?_⟩, fun i q z => ?_⟩
  · replace z : upd B.H p (.frz ob (.dK kv)) q = some u := z
    by_cases e : q = p
    · subst e; rw [upd_same] at z ⊢; exact z
    · rw [upd_ne e] at z ⊢
      refine s.ext.hs q u z fun w => no ?_
      show (if B.O = some p then none else B.O) = some q
      rw [if_neg (by rw [w]; exact fun y => e (Option.some.inj y))]; exact w
  · replace z : upd B.H p (.frz ob (.dK kv)) q ≠ none := z
    by_cases e : q = p
    · subst e; rw [upd_same]; exact fun x => nomatch x
    · rw [upd_ne e] at z ⊢; exact s.ext.there q z
  · have ne := gne i q z
    refine ⟨fun w => ?_, fun w => by show upd B.H p _ q = none; rw [upd_ne ne]; exact (s.own i q z).2 w⟩
    have := (s.own i q z).1 w
    show (if B.O = some p then none else B.O) = some q
    rw [if_neg (by rw [this]; exact fun y => ne (Option.some.inj y))]; exact this
theorem StF.unlock {j : Option Nat} {B : Bs} {p : Addr} {ob : Obj} {kv : List (Key × V)} (s : StF K A j B σ G H ρ) (hp : G p = some (.dK kv)) (hH : H p = some (.dK kv)) (s' : StF K A j { G := G, H := upd B.H p (.frz ob (.dK kv)), O := if B.O = some p then none else B.O } σ' G' H' ρ') :
    H' p = some (.frz ob (.dK kv)) ∧ StF K A j B σ' G' (upd H' p (.dK kv)) ρ' := by
  have gp : G' p = some (.dK kv) := s'.ext.gs _ _ hp
  have oo : ∀ q, (if B.O = some p then none else B.O) = some q → B.O = some q ∧ q ≠ p := fun q w => by
    split at w
    · cases w
    · rename_i e; exact ⟨w, fun z => e (z ▸ w)⟩
  have gne : ∀ i q, Own σ' ρ' i q → q ≠ p := fun i q z e => by subst e; have := (z.has s'.st).1; rw [gp] at this; cases this
  refine ⟨s'.ext.hs p _ upd_same fun w => (oo p w).2 rfl, s'.st.unlock gp, ⟨s.ext.gs.trans s'.ext.gs, fun q hq => ?_, fun q u z no => ?_, fun q z => ?_⟩, fun i q z => ?_⟩
  · rcases s'.ext.fr q hq with w | w | w
    · exact s.ext.fr q w
    · replace w : upd B.H p (.frz ob (.dK kv)) q = none := w
      by_cases e : q = p
      · subst e; rw [upd_same] at w; cases w
      · rw [upd_ne e] at w; exact .inr (.inl w)
    · exact .inr (.inr (oo q w).1)
  · by_cases e : q = p
    · subst e
      have := s.ext.hs q u z no
      rw [hH] at this; cases this
      exact upd_same
    · rw [upd_ne e]; exact s'.ext.hs q u (by show upd B.H p (.frz ob (.dK kv)) q = some u; rw [upd_ne e]; exact z) fun w => no (oo q w).1
  · by_cases e : q = p
    · subst e; rw [upd_same]; exact fun x => nomatch x
    · rw [upd_ne e]; exact s'.ext.there q (by show upd B.H p (.frz ob (.dK kv)) q ≠ none; rw [upd_ne e]; exact z)
  · have ne := gne i q z
    refine ⟨fun w => (oo q ((s'.own i q z).1 w)).1, fun w => ?_⟩
    have : upd B.H p (.frz ob (.dK kv)) q = none := (s'.own i q z).2 w
    rw [upd_ne ne] at this; exact this
/-- .. where it was known already -/
theorem StF.unpin {j : Option Nat} {B : Bs} {p : Addr} {ob : Obj} {kv : List (Key × V)} (s : StF K A j B σ G H ρ) (hp : G p = some (.dK kv)) (hH : H p = some (.frz ob (.dK kv))) (s' : StF K A j { G := G, H := upd B.H p (.frz ob (.dK kv)), O := if B.O = some p then none else B.O } σ' G' H' ρ') :
    H' p = some (.frz ob (.dK kv)) ∧ StF K A j B σ' G' H' ρ' := by
  have gp : G' p = some (.dK kv) := s'.ext.gs _ _ hp
  have oo : ∀ q, (if B.O = some p then none else B.O) = some q → B.O = some q ∧ q ≠ p := fun q w => by
    split at w
    · cases w
    · rename_i e; exact ⟨w, fun z => e (z ▸ w)⟩
  have gne : ∀ i q, Own σ' ρ' i q → q ≠ p := fun i q z e => by subst e; have := (z.has s'.st).1; rw [gp] at this; cases this
  have hp' := s'.ext.hs p _ upd_same fun w => (oo p w).2 rfl
  refine ⟨hp', s'.st, ⟨s.ext.gs.trans s'.ext.gs, fun q hq => ?_, fun q u z no => ?_, fun q z => ?_⟩, fun i q z => ?_⟩
  · rcases s'.ext.fr q hq with w | w | w
    · exact s.ext.fr q w
    · replace w : upd B.H p (.frz ob (.dK kv)) q = none := w
      by_cases e : q = p
      · subst e; rw [upd_same] at w; cases w
      · rw [upd_ne e] at w; exact .inr (.inl w)
    · exact .inr (.inr (oo q w).1)
  · by_cases e : q = p
    · subst e
      have := s.ext.hs q u z no
      rw [hH] at this; cases this
      exact hp'
    · exact s'.ext.hs q u (by show upd B.H p (.frz ob (.dK kv)) q = some u; rw [upd_ne e]; exact z) fun w => no (oo q w).1
  · by_cases e : q = p
    · subst e; rw [hp']; exact fun x => nomatch x
    · exact s'.ext.there q (by show upd B.H p (.frz ob (.dK kv)) q ≠ none; rw [upd_ne e]; exact z)
  · have ne := gne i q z
    refine ⟨fun w => (oo q ((s'.own i q z).1 w)).1, fun w => ?_⟩
    have : upd B.H p (.frz ob (.dK kv)) q = none := (s'.own i q z).2 w
    rw [upd_ne ne] at this; exact this
theorem forK_use {j : Option Nat} {i : Nat} {ws : List Nat} {g : Tg} {body : Sv} {D : Ends} (h : liftS K A j (sFor (iKeys i) g body) D σ H) :
    tLock (tFor (L2.iKeys (tVar i)) (liftG K A ws g) (liftS K A j body)) D σ H ∨ tFor (L2.iKeys (tVar i)) (liftG K A ws g) (liftS K A j body) D σ H := by
  obtain ⟨B, G, ρ, o, ρ', s, e, k⟩ := h
  obtain ⟨⟨ds, ρ1⟩, e1, e⟩ := bind_ok e
  obtain ⟨p, kv, kvs, G1, hσ, n1, hp, rk, rfl⟩ := iKeys_ok s.st e1
  have s1 := s.step n1
  rcases n1.st.sub p _ hp with hH | ⟨_, ob, hH⟩
  · refine .inl ⟨p, _, hH, trivial, fun od => ⟨_, hσ, p, od, rfl, .inl ⟨kv, upd_same, ?_⟩⟩⟩
    have sl := s1.lock (ob := od) hp
    refine for_main sl (Φ := fun G' H' => Keep G1 G' H' ∧ H' p = some (.frz od (.dK kv))) (keys_walk rk (fun _ _ x => x.1) fun _ _ x => x.2) (fun σ' G' H' ρ' s' => ⟨⟨s'.ext.gs, s'.st.sub⟩, (s1.unlock hp hH s').1⟩) e ?_
    cases o with
    | nx => exact fun σ' G' H' s' => ⟨(s1.unlock hp hH s').1, k σ' G' _ (s1.unlock hp hH s').2⟩
    | bk => exact fun σ' G' H' s' => ⟨(s1.unlock hp hH s').1, k σ' G' _ (s1.unlock hp hH s').2⟩
    | ct => exact fun σ' G' H' s' => ⟨(s1.unlock hp hH s').1, k σ' G' _ (s1.unlock hp hH s').2⟩
    | rt r =>
      intro v σ' G' H' s' hr
      have u := s1.unlock hp hH s'
      refine ⟨u.1, k v σ' G' _ u.2 ?_⟩
      have gp : G' p = some (.dK kv) := s'.ext.gs _ _ hp
      unfold RepR at *
      split at hr
      · rename_i q
        rw [if_pos q]
        obtain ⟨q, e, a1, a2, a3, a4⟩ := hr
        have ne : q ≠ p := fun z => by subst z; rw [a1] at gp; cases gp
        exact ⟨q, e, a1, a2.mono (fun _ _ z => z) fun o z => by rw [upd_ne ne]; exact z, a3, by have a5 : upd B.H p (.frz od (.dK kv)) q = none := a4; rw [upd_ne ne] at a5; exact a5⟩
      · rename_i q
        rw [if_neg q]; exact hr
  · refine .inr ⟨_, hσ, p, ob, rfl, .inl ⟨kv, hH, ?_⟩⟩
    have sl := s1.lock (ob := ob) hp
    have eH : upd H p (.frz ob (.dK kv)) = H := by
      funext q
      by_cases e : q = p
      · subst e; rw [upd_same, hH]
      · rw [upd_ne e]
    rw [eH] at sl
    refine for_main sl (Φ := fun G' H' => Keep G1 G' H' ∧ H' p = some (.frz ob (.dK kv))) (keys_walk rk (fun _ _ x => x.1) fun _ _ x => x.2) (fun σ' G' H' ρ' s' => ⟨⟨s'.ext.gs, s'.st.sub⟩, (s1.unpin hp hH s').1⟩) e ?_
    cases o with
    | nx => exact fun σ' G' H' s' => k σ' G' _ (s1.unpin hp hH s').2
    | bk => exact fun σ' G' H' s' => k σ' G' _ (s1.unpin hp hH s').2
    | ct => exact fun σ' G' H' s' => k σ' G' _ (s1.unpin hp hH s').2
    | rt r =>
      intro v σ' G' H' s' hr
      have u := s1.unpin hp hH s'
      refine k v σ' G' _ u.2 ?_
      have gp : G' p = some (.dK kv) := s'.ext.gs _ _ hp
      unfold RepR at *
      split at hr
      · rename_i q
        rw [if_pos q]
        obtain ⟨q, e, a1, a2, a3, a4⟩ := hr
        have ne : q ≠ p := fun z => by subst z; rw [a1] at gp; cases gp
        exact ⟨q, e, a1, a2, a3, by have a5 : upd B.H p (.frz ob (.dK kv)) q = none := a4; rw [upd_ne ne] at a5; exact a5⟩
      · rename_i q
        rw [if_neg q]; exact hr
theorem dcGo_cons {g : Tg} {c : Option Ev} {ek ev : Ev} {ds : List D} {acc accE : List (Ky × D)} {x : D} {ρE : Env} (h : dcGo g c ek ev vs (x :: ds) acc ρ = .ok (accE, ρE)) : ∃ ρa b ρb, g x (wipeS ρ vs) = .ok ρa ∧ cond c ρa = .ok (b, ρb) ∧
    ((b = true ∧ ∃ y ρc z ρd q, val ek ρb = .ok (y, ρc) ∧ val ev ρc = .ok (z, ρd) ∧ keyOf y = .ok q ∧ dcGo g c ek ev vs ds (dput acc q z) ρd = .ok (accE, ρE)) ∨ (b = false ∧ dcGo g c ek ev vs ds acc ρb = .ok (accE, ρE))) := by
  obtain ⟨ρa, e1, h⟩ := bind_ok h
  obtain ⟨⟨b, ρb⟩, e2, h⟩ := bind_ok h
  refine ⟨ρa, b, ρb, e1, e2, ?_⟩
  cases b with
  | true =>
    obtain ⟨⟨y, ρc⟩, e3, h⟩ := bind_ok (show (val ek ρb >>= fun z => val ev z.2 >>= fun w => keyOf z.1 >>= fun q => dcGo g c ek ev vs ds (dput acc q w.1) w.2) = .ok (accE, ρE) from h)
    obtain ⟨⟨z, ρd⟩, e4, h⟩ := bind_ok h
    obtain ⟨q, e5, h⟩ := bind_ok h
    exact .inl ⟨rfl, y, ρc, z, ρd, q, e3, e4, e5, h⟩
  | false => exact .inr ⟨rfl, h⟩
theorem dput_len {κ : Type} [DecidableEq κ] (kvs : List (κ × D)) (k : κ) (v : D) : (dput kvs k v).length ≤ kvs.length + 1 := by
  unfold dput
  split
  · rw [List.length_map]; omega
  · rw [List.length_append]; exact Nat.le_refl _
theorem dc_use {it : Iv} {ws : List Nat} {g : Tg} {c : Option Ev} {ek ev : Ev} {Q : VK} (hws : ∀ i ∈ ws, i ∈ vs) (h : liftE K A (eDc it g c ek ev vs) σ H Q) : tDc (liftI K A it) (liftG K A ws g) (liftC K A c) (liftE K A ek) (liftE K A ev) vs σ H Q := by
  obtain ⟨G, ρ, r, ρ', s, e0, k⟩ := h
  obtain ⟨⟨ds, ρ1⟩, e1, e0⟩ := bind_ok e0
  refine ⟨G, ρ, ds, ρ1, s, e1, fun J G1 H1 n1 wd P hP => ?_⟩
  dsimp only at e0
  split at e0
  · rename_i hno
    rw [Bool.and_eq_true] at hno
    have hlen : ds.length ≤ 1000 := of_decide_eq_true hno.2
    obtain ⟨⟨accE, ρE⟩, e2, e0⟩ := bind_ok e0
    cases e0
    obtain ⟨Gd, Y, w, hG, hY⟩ := wd
    refine ⟨fun i m H' => m = ds.length - i ∧ i ≤ ds.length ∧ ∃ G' ρi acc, LI K A σ G1 H1 ρ1 vs P G' H' ρi (.dic acc) ∧ acc.length ≤ i ∧ dcGo g c ek ev vs (ds.drop i) acc ρi = .ok (accE, ρE), ⟨ds.length, by simp, Nat.zero_le _, G1, ρ1, [], LI.begin n1.st hP ⟨[], upd_same, .nil⟩, Nat.le_refl _, e2⟩, ?_⟩
    rintro i m H2 ⟨rfl, hi, G2, ρi, acc, l, hl, e2⟩
    have hGd := hG G2 H2 ⟨l.ext.gs, l.st.sub⟩
    by_cases hlt : i < ds.length
    · refine .inr ⟨w.goes i H2 hlt hGd, fun H' => i + 1 ≤ ds.length ∧ ∃ G' ρi acc, LI K A σ G1 H1 ρ1 vs P G' H' ρi (.dic acc) ∧ acc.length ≤ i + 1 ∧ dcGo g c ek ev vs (ds.drop (i + 1)) acc ρi = .ok (accE, ρE), fun H' ⟨a, b⟩ => ⟨ds.length - (i + 1), by omega, rfl, a, b⟩, fun x H3 yy => ?_⟩
      obtain ⟨G3, d, n0, hd, rx⟩ := hY i G2 H2 x H3 hlt ⟨l.ext.gs, l.st.sub⟩ (w.yields i H2 x H3 hlt hGd yy)
      rw [List.drop_eq_getElem_cons hlt, (List.getElem?_eq_some_iff.mp hd).2] at e2
      obtain ⟨ρa, b, ρb, ea, eb, ec⟩ := dcGo_cons e2
      refine ⟨G3, wipeS ρi vs, d, ρa, (l.st.nx0 n0).st, rx, ea, fun σ2 st2 ow2 hl2 hw2 => ?_⟩
      have hl2' : σ2.length = σ.length := by rw [hl2, wipe_length]
      have hw2' : ∀ i, i ∉ vs → σ2[i]? = (L2.wipe σ vs)[i]? := fun i hi => hw2 i fun z => hi (hws i z)
      refine ⟨wipe_eq hl2' hw2', cond_use st2 eb fun G4 H4 n4 => ?_⟩
      rcases ec with ⟨rfl, yv, ρc, zv, ρd, q, ey, ez, eq, ec⟩ | ⟨rfl, ec⟩
      · refine iteT (use_val n4.st ey fun v G5 H5 n5 r5 => use_val n5.st ez fun v2 G6 H6 n6 r6 => ?_)
        have n45 := (n4.trans n5).trans n6
        have noP : ¬ OwnS σ2 ρa P := fun ⟨k, z⟩ => l.no n1.st hP k (l.own k P (ow2 k P z))
        have p3 := pend0 l.gP l.hP n0
        obtain ⟨gP, avs, hv, ra⟩ := pend noP p3.1 p3.2 n45
        refine ⟨avs, kK q, (keyOf_rep r5 eq).1, hv, small1000 (by rw [ra.len]; omega), hlt, G6, ρd, dput acc q zv, l.turn n1.st hP n0 hl2' hw2' ow2 n45 ⟨_, upd_same, ra.put q r6⟩, Nat.le_trans (dput_len acc q zv) (Nat.succ_le_succ hl), ec⟩
      · exact iteF ⟨hlt, G4, ρb, acc, l.skip n1.st hP n0 hl2' hw2' ow2 n4, Nat.le_succ_of_le hl, ec⟩
    · have : i = ds.length := by omega
      subst this
      refine .inl ⟨w.stops H2 hGd, ?_⟩
      rw [List.drop_length] at e2
      cases e2
      obtain ⟨nn, rr⟩ := l.done n1.st hP hno.1 n1
      exact k _ G2 H2 nn rr
  · cases e0
end
section
variable {X : Cx} {A : CT}
theorem pdts_nil : PTs X [] (liftC X.K A none) := pts_nil
theorem pdts_one {c : Expr} {m : Ev} (h : PDT A X c m) : PTs X [c] (liftC X.K A (some m)) := pts_one h
theorem PE.or {e : Expr} {t t' : TE} (h : PE X e t) (h' : PE X e t') : PE X e (fun σ H Q => t σ H Q ∨ t' σ H Q) := ⟨fun pins s σ H Q I q => q.elim (h.run pins s σ H Q I) (h'.run pins s σ H Q I)⟩
theorem pd_lcK {e : Expr} {i : Nat} {vs ws : List Nat} {g : Tg} {c : Option Ev} {m : Ev} (hws : ∀ i ∈ ws, i ∈ vs) (h : PE X e (tLc (L2.iKeys (tVar i)) (liftG X.K A ws g) (liftC X.K A c) (liftE X.K A m) vs)) : PD A X e (eLc (iKeys i) g c m vs) := PE.imp (PE.or h (pe_lock h)) fun _ _ _ => lcK_use hws
theorem pd_lc {e : Expr} {it : Iv} {vs ws : List Nat} {g : Tg} {c : Option Ev} {m : Ev} (hws : ∀ i ∈ ws, i ∈ vs) (h : PE X e (tLc (liftI X.K A it) (liftG X.K A ws g) (liftC X.K A c) (liftE X.K A m) vs)) : PD A X e (eLc it g c m vs) := PE.imp h fun _ _ _ => lc_use hws
theorem pds_setlc {st : Stmt} {j : Option Nat} {it : Iv} {vs ws : List Nat} {g : Tg} {c : Option Ev} {m : Ev} {w : Bool} {i : Nat} (hws : ∀ i ∈ ws, i ∈ vs) (h : PS X st (tAsg (tLc (liftI X.K A it) (liftG X.K A ws g) (liftC X.K A c) (liftE X.K A m) vs) (gName i))) (hw : w = true → j ≠ some i) : PDS A j X st (sAsg w i (eLc it g c m vs)) := PS.imp h fun D σ H q => lc_use hws (set_use hw q)
theorem pd_dc {e : Expr} {it : Iv} {vs ws : List Nat} {g : Tg} {c : Option Ev} {mk mv : Ev} (hws : ∀ i ∈ ws, i ∈ vs) (h : PE X e (tDc (liftI X.K A it) (liftG X.K A ws g) (liftC X.K A c) (liftE X.K A mk) (liftE X.K A mv) vs)) : PD A X e (eDc it g c mk mv vs) := PE.imp h fun _ _ _ => dc_use hws
theorem pds_forK {st : Stmt} {j : Option Nat} {i : Nat} {ws : List Nat} {g : Tg} {body : Sv} (h : PS X st (tFor (L2.iKeys (tVar i)) (liftG X.K A ws g) (liftS X.K A j body))) : PDS A j X st (sFor (iKeys i) g body) := by
  refine ⟨fun pins s σ H D I q => ?_⟩
  rcases forK_use (ws := ws) q with q | q
  · exact (ps_lock h).run pins s σ H D I q
  · exact h.run pins s σ H D I q
end
end DY

set_option Elab.async false
set_option linter.all false
set_option maxRecDepth 100000
set_option maxHeartbeats 4000000
namespace DY
open PySem L2 PySem.Spec PyProof.Rows
/-- a value that no unfolding opens -/
noncomputable def shut {α : Type} (a : α) : α := (Classical.choice (⟨⟨a, rfl⟩⟩ : Nonempty {x : α // x = a})).1
theorem shut_eq {α : Type} (a : α) : shut a = a := (Classical.choice (⟨⟨a, rfl⟩⟩ : Nonempty {x : α // x = a})).2
/-! ### what the printer names -/
theorem mkFn_len {n p : Nat} {body : Sv} : ∀ ds r, mkFn n p body ds = .ok r → ds.length = p := fun ds r h => by
  unfold mkFn at h
  split at h
  · assumption
  · cases h
theorem mkFnR_len {n p j : Nat} {body : Sv} : ∀ ds d r, mkFnR n p j body ds d = .ok r → ds.length + 1 = p := fun ds d r h => by
  unfold mkFnR at h
  split at h
  · rename_i q; exact q.1
  · cases h
theorem u65 {k : Nat} {A : Around} (r : Room k A) : A.units + 65 < cLine := by have := r.un; omega
/-- values in the parameters' order -/
def prm {α : Type} (is : List Nat) (xs zs : List α) : List α := xs ++ is.filterMap (fun i => zs[i]?)
theorem prm_gv (is : List Nat) : GV (prm is) (prm is) := by
  refine ⟨fun {K A G vs zs ds es} h1 h2 => h1.append ?_⟩
  induction is with
  | nil => exact .nil
  | cons i is ih =>
    rw [List.filterMap_cons, List.filterMap_cons]
    cases e : zs[i]? with
    | none =>
      have : es[i]? = none := by
        rw [List.getElem?_eq_none_iff] at e ⊢
        rw [← h2.len]; exact e
      rw [this]; exact ih
    | some v =>
      obtain ⟨d, e2, r⟩ := h2.get e
      rw [e2]; exact .cons r ih
theorem vals_prm (is : List Nat) {vs zs : List V} {us ws : List Value} (h1 : Vals vs us) (h2 : Vals zs ws) : Vals (prm is vs zs) (prm is us ws) := by
  refine h1.append ?_
  induction is with
  | nil => exact .nil
  | cons i is ih =>
    rw [List.filterMap_cons, List.filterMap_cons]
    have key : ∀ {zs : List V} {ws : List Value}, Vals zs ws → ∀ i : Nat, (zs[i]? = none ∧ ws[i]? = none) ∨ ∃ v u, zs[i]? = some v ∧ ws[i]? = some u ∧ Vals [v] [u] := fun {zs ws} h => by
      induction h with
      | nil => intro i; exact .inl ⟨by simp, by simp⟩
      | cons a b ih =>
        intro i
        cases i with
        | zero => exact .inr ⟨_, _, rfl, rfl, .cons a .nil⟩
        | succ i => simpa using ih i
    rcases key h2 i with ⟨e1, e2⟩ | ⟨v, u, e1, e2, q⟩
    · rw [e1, e2]; exact ih
    · rw [e1, e2]
      exact Vals.append q ih
section
variable {K : PySem.W.Frag} {X : Cx} {A : CT} {pos pos' apos : Pos} {n : Nat} {a e f : Expr} {es : List Expr} {ma me mf : Ev} {ms : List Ev} {m : Str} {E : XK}
theorem meth_use0 {F : Fn} {c : Nat} {σ : L2.St} {H : Hp} {Q : VK} (hm : m ∉ A.nms c) (hF : ∀ ds r, F ds = .ok r → ds.length = n) (h : liftE K A (eMeth c F ma []) σ H Q) : tMeth (A.ad c) m (spF K A F n) [] E (liftE K A ma) tNil σ H Q := by
  obtain ⟨G, ρ, r, ρ', s, e, kk⟩ := h
  obtain ⟨⟨d, ρ1⟩, e1, e⟩ := bind_ok e
  obtain ⟨_, e2, e⟩ := bind_ok e
  obtain ⟨⟨xs, ρ2⟩, e3, e⟩ := bind_ok e
  cases e3
  obtain ⟨r', e4, e⟩ := bind_ok e
  cases e
  obtain ⟨fs, rfl⟩ := isIns_ok e2
  refine use_val s e1 fun v G1 H1 n1 r1 => ?_
  cases id r1 with
  | ins h l hc rs =>
    refine ⟨_, _, _, rfl, n1.st.sub.ins h, lookup_zip_none hm, ?_⟩
    have rr := Reps.cons r1 .nil
    exact ⟨by rw [← hF _ _ e4]; rfl, G1, _, r, n1.st.sub, rr, e4, end_of n1 kk⟩
theorem nil_of {σ : L2.St} {H : Hp} {Q : List V → Hp → Prop} (h : liftA K A [] σ H Q) : tNil σ H Q := by
  obtain ⟨G, ρ, ds, ρ', s, e, k⟩ := h
  cases e
  exact k [] G H (Nx.refl s) .nil
theorem makeK_use0 {init : FnR} {c nk : Nat} {ks : List Ev} {gV : List V → List V → List V} {g : List D → List D → List D} {σ : L2.St} {H : Hp} {Q : VK} (hc : c ∈ A.cs) (hF : ∀ ds d r, init ds d = .ok r → ds.length + 1 = n) (hg : GV gV g) {gV' : List V → List V → List V} (hg' : ∀ x vs zs, gV' (x :: vs) zs = x :: gV vs zs) (h2 : nk = ks.length) (h : liftE K A (eNK (mkObj c init) g [] ks) σ H Q) :
    tMakeK (A.ad c) 0 nk (spR K A init n 0) gV' E tNil (liftA K A ks) σ H Q := nil_of (makeK_use hc hF hg hg' rfl h2 h)
theorem methK_use0 {F : Fn} {c nk : Nat} {ks : List Ev} {gV : List V → List V → List V} {g : List D → List D → List D} {σ : L2.St} {H : Hp} {Q : VK} (hm : m ∉ A.nms c) (hF : ∀ ds r, F ds = .ok r → ds.length = n) (hg : GV gV g) (h2 : nk = ks.length) (h : liftE K A (eMethK c F g ma [] ks) σ H Q) :
    SL.tMethN (A.ad c) m 0 nk (spF K A F n) gV E (liftE K A ma) tNil (liftA K A ks) σ H Q := by
  obtain ⟨G, ρ, r, ρ', s, e, kk⟩ := h
  obtain ⟨⟨d, ρ1⟩, e1, e⟩ := bind_ok e
  obtain ⟨_, e2, e⟩ := bind_ok e
  obtain ⟨⟨xs, ρ2⟩, e3, e⟩ := bind_ok e
  cases e3
  obtain ⟨⟨zs, ρ3⟩, e5, e⟩ := bind_ok e
  obtain ⟨r', e4, e⟩ := bind_ok e
  cases e
  obtain ⟨fs, rfl⟩ := isIns_ok e2
  refine use_val s e1 fun v G1 H1 n1 r1 => ?_
  cases id r1 with
  | ins h l hc rs =>
    refine ⟨_, _, _, rfl, n1.st.sub.ins h, lookup_zip_none hm, G1, _, zs, _, n1.st, e5, fun ws G3 H3 n3 r3 => ⟨rfl, by rw [r3.len, evs_len e5, h2], ?_⟩⟩
    have rr := hg.rel ((Reps.cons r1 .nil).mono n3.gs) r3
    exact ⟨by rw [rr.len]; exact hF _ _ e4, G3, _, r, n3.st.sub, rr, e4, end_of (n1.trans n3) kk⟩
/-! ### {} -/
def eC0 (d : D) : Ev := fun ρ => .ok ((d, true), ρ)
theorem pd_dnew : PD A X (.Dict [] [] pos) (eC0 (.dic [])) := PE.imp pe_dnewK fun σ H Q q => by
  obtain ⟨G, ρ, r', ρ', s, e, k⟩ := q
  cases e
  intro p hp
  obtain ⟨h1, h2⟩ := new_dic (A := A) s.sub hp (.nil (K := X.K))
  exact end_of (Nx.refl s) k _ _ _ h1 h2
theorem pd_dnewT : PD A X (.Dict [] [] pos) (eC0 (.dct [])) := PE.imp pe_dnewT fun σ H Q q => by
  obtain ⟨G, ρ, r', ρ', s, e, k⟩ := q
  cases e
  intro p hp
  obtain ⟨h1, h2⟩ := new_dct (A := A) s.sub hp (.nil (K := X.K))
  exact end_of (Nx.refl s) k _ _ _ h1 h2
/-! ### f'..' -/
def fmtD : D → R Rv
  | .str s => if s.length ≤ 100000 then str_ s else .no
  | .int i => if i.natAbs.log2 < 1920 then str_ (figs i) else .no
  | _ => .no
def fcat (ds : List D) : R Rv := do
  let ss ← strsOf ds
  if (ss.map (·.length)).sum ≤ 100000 then str_ ss.flatten else .no
theorem pd_fmt (h : PD A X e me) : PD A X (.FormattedValue e (-1) none pos) (eUn fmtD me) := PE.imp (pe_fmt h) fun σ H Q q => by
  obtain ⟨G, ρ, r, ρ', s, e, k⟩ := q
  obtain ⟨⟨d, ρ1⟩, e1, e⟩ := bind_ok e
  obtain ⟨r', e2, e⟩ := bind_ok e
  cases e
  refine use_val s e1 fun v G1 H1 n1 r1 => ?_
  unfold fmtD at e2
  split at e2
  · split at e2
    · rename_i l hl
      cases r1
      cases e2
      exact .inl ⟨_, rfl, by rw [S_len]; exact Nat.le_trans hl (by decide), k _ G1 H1 n1 (RepR.of (.str _))⟩
    · cases e2
  · split at e2
    · rename_i hl
      cases r1
      cases e2
      exact .inr ⟨_, rfl, hl, by rw [figs_eq]; exact k _ G1 H1 n1 (RepR.of (.str _))⟩
    · cases e2
  · cases e2
theorem pd_joined1 (h : PD A X e me) : PD A X (.JoinedStr [e] pos) me := pe_joined1 h
theorem pdj_nil : PJ X [] ([].map (liftE X.K A)) := .nil
theorem pdj_cons (h : PD A X e me) (r : PJ X es (ms.map (liftE X.K A))) : PJ X (e :: es) ((me :: ms).map (liftE X.K A)) := .cons h r
theorem tjs_use {σ : L2.St} {R : Str → Hp → Prop} : ∀ (ms : List Ev) (acc : List Nat) (G H : Hp) (ρ ρ' : Env) (ds : List D) (ss : List (List Nat)), St K A σ G H ρ → evs ms ρ = .ok (ds, ρ') → strsOf ds = .ok ss → acc.length + (ss.map (·.length)).sum ≤ 100000 →
    (∀ G' H', Nx K A σ G H ρ G' H' ρ' → R (S (acc ++ ss.flatten)) H') → tJs (ms.map (liftE K A)) (S acc) σ H R
  | [], acc, G, H, ρ, ρ', ds, ss, s, e, e2, hl, k => by
    cases e
    cases e2
    have := k G H (Nx.refl s)
    show R (S acc) H
    simpa using this
  | m :: ms, acc, G, H, ρ, ρ', ds, ss, s, e, e2, hl, k => by
    obtain ⟨⟨d, ρ0⟩, e0, e⟩ := bind_ok e
    obtain ⟨⟨ds', ρ1⟩, e1, e⟩ := bind_ok e
    cases e
    unfold strsOf at e2
    split at e2
    · rename_i hh; cases hh
    · rename_i b ds2 hh
      cases hh
      obtain ⟨bs, e3, e2⟩ := bind_ok e2
      cases e2
      refine use_val s e0 fun v G1 H1 n1 r1 => ?_
      cases r1
      rw [List.map_cons, List.sum_cons] at hl
      refine ⟨_, rfl, ?_, ?_⟩
      · rw [S_app, S_len, List.length_append]
        exact Nat.le_trans (show acc.length + b.length ≤ 100000 by omega) (by decide)
      · rw [S_app]
        refine tjs_use ms _ G1 H1 _ _ _ _ n1.st e1 e3 (by rw [List.length_append]; omega) fun G' H' n2 => ?_
        have := k G' H' (n1.trans n2)
        rw [List.flatten_cons, ← List.append_assoc] at this
        exact this
    · cases e2
theorem pd_joined {v1 v2 : Expr} {rest : List Expr} (h : PJ X (v1 :: v2 :: rest) (ms.map (liftE X.K A))) : PD A X (.JoinedStr (v1 :: v2 :: rest) pos) (eN fcat ms) := PE.imp (pe_joined h) fun σ H Q q => by
  obtain ⟨G, ρ, r, ρ', s, e, k⟩ := q
  obtain ⟨⟨ds, ρ1⟩, e1, e⟩ := bind_ok e
  obtain ⟨r', e2, e⟩ := bind_ok e
  cases e
  obtain ⟨ss, e3, e2⟩ := bind_ok e2
  split at e2
  · rename_i hl
    cases e2
    refine tjs_use ms [] G H ρ _ ds ss s e1 e3 (by simpa using hl) fun G' H' n => ?_
    exact k _ G' H' n (RepR.of (.str _))
  · cases e2
end
/-! ### the law -/
/-- the script stands for a frozen list -/
theorem rep_script {K : PySem.W.Frag} {A : CT} {H : Hp} {p : Addr} {ns : List Int} (h : SqL K H p (ns.map V.int)) : Rep K A H (.ref p) (.fls (ns.map D.int)) := by
  refine .fls h ?_
  clear h
  induction ns with
  | nil => exact .nil
  | cons n ns ih => exact .cons (.int n) ih
/-- the classes' attributes in the order of their writing -/
def nmsOf : Nat → List Str
  | 0 => ["top", "bottom"]
  | 1 => ["constant", "terms", "names"]
  | 2 => ["parts", "ties", "hooks", "strings", "names", "ways"]
  | 3 => ["puppet", "moves", "begin"]
  | 4 => ["script", "kept", "stages"]
  | 5 => ["form"]
  | 7 => ["script", "wish", "overs", "reached", "taken", "truths", "gathered"]
  | _ => []
theorem nms_nd (c : Nat) : (nmsOf c).Nodup := by
  unfold nmsOf
  split <;> decide +kernel
def sp_law (K : PySem.W.Frag) : Sp := fun vs H Q _ => ∃ (p : Addr) (ns : List Int), vs = [.ref p] ∧ SqL K H p (ns.map V.int) ∧ ns.length ≤ 63 ∧ ∀ H', Q (.bl true) H'
theorem sp_of {K : PySem.W.Frag} {A : CT} {F : Fn} (ht : ∀ ns : List Int, ns.length ≤ 63 → F [.fls (ns.map D.int)] = .ok (.bl true, false)) {vs : List V} {H : Hp} {Q : VK} {E : XK} (h : sp_law K vs H Q E) : spF K A F 1 vs H Q E := by
  obtain ⟨p, ns, rfl, hp, hl, k⟩ := h
  refine ⟨rfl, H, _, _, Sub.refl H, .cons (rep_script hp) .nil, ht ns hl, fun v G' H' _ rn => ?_⟩
  cases (show Rep K A G' v (.bl true) from rn)
  exact k H'
end DY

set_option Elab.async false
set_option linter.all false
set_option maxRecDepth 100000
set_option maxHeartbeats 4000000
namespace DY
/-! ### what a mirror answers, step by step -/
def Wp {α : Type} (m : R α) (P : α → Prop) : Prop := ∃ a, m = .ok a ∧ P a
section
variable {α β : Type} {m : R α} {f : α → R β} {P Q : α → Prop}
theorem Wp.ok {a : α} (h : P a) : Wp (.ok a) P := ⟨a, rfl, h⟩
theorem Wp.bind {P : β → Prop} (h : Wp m fun a => Wp (f a) P) : Wp (m >>= f) P := by
  obtain ⟨a, rfl, b, e, h⟩ := h
  exact ⟨b, e, h⟩
theorem Wp.mono (h : Wp m P) (k : ∀ a, P a → Q a) : Wp m Q := by
  obtain ⟨a, e, h⟩ := h
  exact ⟨a, e, k a h⟩
end
def We (e : Ev) (ρ : Env) (P : D → Bool → Env → Prop) : Prop := Wp (e ρ) fun x => P x.1.1 x.1.2 x.2
def Wr (m : R Rv) (P : D → Bool → Prop) : Prop := Wp m fun x => P x.1 x.2
def Wa (ms : List Ev) (ρ : Env) (P : List D → Env → Prop) : Prop := Wp (evs ms ρ) fun x => P x.1 x.2
def Ws (s : Sv) (ρ : Env) (P : Out → Env → Prop) : Prop := Wp (s ρ) fun x => P x.1 x.2
def Wi (it : Iv) (ρ : Env) (P : List D → Env → Prop) : Prop := Wp (it ρ) fun x => P x.1 x.2
def Wg (g : Tg) (d : D) (ρ : Env) (P : Env → Prop) : Prop := Wp (g d ρ) P
def Wl (ρ : Env) (i : Nat) (P : D → Prop) : Prop := Wp (look ρ i) P
def WR (F : FnR) (ds : List D) (d : D) (P : D → Bool → D → Prop) : Prop := Wp (F ds d) fun x => P x.1.1 x.1.2 x.2
/-- a test's answer -/
def Br (x : D) (A B : Prop) : Prop := ∃ c, x = .bl c ∧ (c = true → A) ∧ (c = false → B)
section
variable {A B : Prop}
theorem Br.t (h : A) : Br (.bl true) A B := ⟨true, rfl, fun _ => h, fun z => nomatch z⟩
theorem Br.f (h : B) : Br (.bl false) A B := ⟨false, rfl, fun z => (nomatch z), fun _ => h⟩
theorem Br.d {p : Prop} [Decidable p] (h : p → A) (h' : ¬ p → B) : Br (.bl (decide p)) A B := ⟨_, rfl, fun z => h (of_decide_eq_true z), fun z => h' (of_decide_eq_false z)⟩
theorem Br.dt {p : Prop} [Decidable p] (hp : p) (h : A) : Br (.bl (decide p)) A B := .d (fun _ => h) fun z => absurd hp z
theorem Br.df {p : Prop} [Decidable p] (hp : ¬ p) (h : B) : Br (.bl (decide p)) A B := .d (fun z => absurd z hp) fun _ => h
theorem Br.n {b : Bool} (h : Br (.bl b) B A) : Br (.bl (!b)) A B := by
  obtain ⟨c, e, h1, h2⟩ := h
  cases e
  refine ⟨_, rfl, fun z => h2 ?_, fun z => h1 ?_⟩ <;> cases b <;> first | rfl | cases z
theorem Br.b {b : Bool} (h : b = true → A) (h' : b = false → B) : Br (.bl b) A B := ⟨b, rfl, h, h'⟩
theorem Br.bt {b : Bool} (hb : b = true) (h : A) : Br (.bl b) A B := ⟨b, rfl, fun _ => h, fun z => by rw [hb] at z; cases z⟩
theorem Br.bf {b : Bool} (hb : b = false) (h : B) : Br (.bl b) A B := ⟨b, rfl, fun z => (by rw [hb] at z; cases z), fun _ => h⟩
theorem Br.mono {x : D} {A' B' : Prop} (h : Br x A B) (a : A → A') (b : B → B') : Br x A' B' := by
  obtain ⟨c, e, h1, h2⟩ := h
  exact ⟨c, e, fun z => a (h1 z), fun z => b (h2 z)⟩
end
section
variable {ρ : Env} {P : D → Bool → Env → Prop} {Q : D → Bool → Prop} {a b c t e k z : Ev} {i : Nat} {d : D} {f g : D → D → R Rv} {ms ks pre post : List Ev} {F : Fn} {G : FnR}
/-- the object of slot i; what is known of a value's kind -/
def OwK (ρ : Env) (i : Nat) (Q : D → Prop) : Prop := ∃ d, ρ[i]? = some (.ow d) ∧ Q d
def InsK (n : Nat) (x : D) (Q : Prop) : Prop := (∃ fs, x = .ins n fs) ∧ Q
def LstK (x : D) (Q : Prop) : Prop := (∃ l, x = .lst l) ∧ Q
def IntK (x : D) (Q : Int → Prop) : Prop := ∃ i, x = .int i ∧ Q i
def BlK (x : D) (Q : Bool → Prop) : Prop := ∃ c, x = .bl c ∧ Q c
def TruK (b : Bool) (Q : Prop) : Prop := b = true ∧ Q
def RgK (j : Int) (Q : Prop) : Prop := (-(2 ^ 62) ≤ j ∧ j < 2 ^ 62) ∧ Q
theorem ow_go {d : D} {Q : D → Prop} (hi : ρ[i]? = some (.ow d)) (h : Q d) : OwK ρ i Q := ⟨d, hi, h⟩
theorem ins_go {n : Nat} {fs : List D} {Q : Prop} (h : Q) : InsK n (.ins n fs) Q := ⟨⟨fs, rfl⟩, h⟩
theorem lst_go {l : List D} {Q : Prop} (h : Q) : LstK (.lst l) Q := ⟨⟨l, rfl⟩, h⟩
theorem int_go {j : Int} {Q : Int → Prop} (h : Q j) : IntK (.int j) Q := ⟨j, rfl, h⟩
theorem bl_go {c : Bool} {Q : Bool → Prop} (h : Q c) : BlK (.bl c) Q := ⟨c, rfl, h⟩
theorem tru_go {Q : Prop} (h : Q) : TruK true Q := ⟨rfl, h⟩
theorem rg_go {j : Int} {Q : Prop} (h0 : -(2 ^ 62) ≤ j) (h1 : j < 2 ^ 62) (h : Q) : RgK j Q := ⟨⟨h0, h1⟩, h⟩
theorem Wr.mono {m : R Rv} {Q' : D → Bool → Prop} (h : Wr m Q) (k : ∀ d b, Q d b → Q' d b) : Wr m Q' := Wp.mono h fun _ z => k _ _ z
theorem WR.mono {ds : List D} {Q Q' : D → Bool → D → Prop} (h : WR G ds d Q) (k : ∀ d b d', Q d b d' → Q' d b d') : WR G ds d Q' := Wp.mono h fun _ z => k _ _ _ z
theorem We.mono {P' : D → Bool → Env → Prop} (h : We e ρ P) (k : ∀ d b ρ', P d b ρ' → P' d b ρ') : We e ρ P' := Wp.mono h fun _ z => k _ _ _ z
theorem Ws.mono {s : Sv} {P P' : Out → Env → Prop} (h : Ws s ρ P) (k : ∀ o ρ', P o ρ' → P' o ρ') : Ws s ρ P' := Wp.mono h fun _ z => k _ _ z
theorem w_ok {m : R Rv} {d : D} {b : Bool} (e : m = .ok (d, b)) (h : Q d b) : Wr m Q := ⟨_, e, h⟩



local macro_rules | `(tactic| walk_at "w") => `(tactic| (simp only [eBin, eUn, eBor, eBorR, eBor1, eN, eIf, eAnd, eOr, eNot, eChain, eCallR, eCallT, eMeth, eMethK, eNK, eMut, eGet, eGetS, eSlice, sAsgT, sExpr, sRet, sRetV, sIf, sPut, sFld, val, evs, bind, R.bind, pure, isB, if_true, if_false, Bool.false_eq_true, *]))
theorem w_c (h : P d false ρ) : We (eC d) ρ P := Wp.ok h
theorem w_c0 (h : P d true ρ) : We (eC0 d) ρ P := Wp.ok h
theorem w_sh (hi : ρ[i]? = some (.sh d)) (h : P d false ρ) : We (eVar i) ρ P := ⟨_, by unfold eVar; rw [hi], h⟩
theorem w_ow (hi : ρ[i]? = some (.ow d)) (h : P d false (ρ.set i (.sh d))) : We (eVar i) ρ P := ⟨_, by unfold eVar; rw [hi], h⟩
theorem w_msh (hi : ρ[i]? = some (.sh d)) (h : P d false ρ) : We (eMove i) ρ P := ⟨_, by unfold eMove; rw [hi], h⟩
theorem w_mow (hi : ρ[i]? = some (.ow d)) (h : P d true (ρ.set i .un)) : We (eMove i) ρ P := ⟨_, by unfold eMove; rw [hi], h⟩
theorem l_sh {Q : D → Prop} (hi : ρ[i]? = some (.sh d)) (h : Q d) : Wl ρ i Q := ⟨_, by unfold look; rw [hi], h⟩
theorem l_ow {Q : D → Prop} (hi : ρ[i]? = some (.ow d)) (h : Q d) : Wl ρ i Q := ⟨_, by unfold look; rw [hi], h⟩
theorem a_nil {P : List D → Env → Prop} (h : P [] ρ) : Wa [] ρ P := Wp.ok h
theorem w_bin (h : We a ρ fun x _ ρ1 => We b ρ1 fun y _ ρ2 => Wr (f x y) fun d k => P d k ρ2) : We (eBin f a b) ρ P := by
  obtain ⟨⟨⟨x, k1⟩, ρ1⟩, e1, h⟩ := h
  obtain ⟨⟨⟨y, k2⟩, ρ2⟩, e2, h⟩ := h
  obtain ⟨⟨r3, k3⟩, e3, h⟩ := h
  exact ⟨((r3, k3), ρ2), by walk_at "w", h⟩
theorem w_un {f : D → R Rv} (h : We a ρ fun x _ ρ1 => Wr (f x) fun d k => P d k ρ1) : We (eUn f a) ρ P := by
  obtain ⟨⟨⟨x, k1⟩, ρ1⟩, e1, h⟩ := h
  obtain ⟨⟨r3, k3⟩, e3, h⟩ := h
  exact ⟨((r3, k3), ρ1), by walk_at "w", h⟩
theorem w_bor (h : Wl ρ i fun _ => We b ρ fun y _ ρ1 => Wl ρ1 i fun x => Wr (f x y) fun d k => P d k ρ1) : We (eBor f i b) ρ P := by
  obtain ⟨x, e0, h⟩ := h
  obtain ⟨⟨⟨y, k2⟩, ρ2⟩, e2, h⟩ := h
  obtain ⟨x', e4, h⟩ := h
  obtain ⟨⟨r3, k3⟩, e3, h⟩ := h
  exact ⟨((r3, k3), ρ2), by walk_at "w", h⟩
theorem w_borR (h : We a ρ fun x _ ρ1 => Wl ρ1 i fun y => Wr (f x y) fun d k => P d k ρ1) : We (eBorR f a i) ρ P := by
  obtain ⟨⟨⟨y, k2⟩, ρ2⟩, e2, h⟩ := h
  obtain ⟨x', e4, h⟩ := h
  obtain ⟨⟨r3, k3⟩, e3, h⟩ := h
  exact ⟨((r3, k3), ρ2), by walk_at "w", h⟩
theorem w_bor1 {f : D → R Rv} (h : Wl ρ i fun x => Wr (f x) fun d k => P d k ρ) : We (eBor1 f i) ρ P := by
  obtain ⟨x', e4, h⟩ := h
  obtain ⟨⟨r3, k3⟩, e3, h⟩ := h
  exact ⟨((r3, k3), ρ), by walk_at "w", h⟩
theorem a_cons {P : List D → Env → Prop} (h : We e ρ fun x _ ρ1 => Wa ms ρ1 fun xs ρ2 => P (x :: xs) ρ2) : Wa (e :: ms) ρ P := by
  obtain ⟨⟨⟨x, k1⟩, ρ1⟩, e1, h⟩ := h
  obtain ⟨⟨xs, ρ2⟩, e2, h⟩ := h
  exact ⟨(x :: xs, ρ2), by walk_at "w", h⟩
theorem w_n {f : List D → R Rv} (h : Wa ms ρ fun xs ρ1 => Wr (f xs) fun d k => P d k ρ1) : We (eN f ms) ρ P := by
  obtain ⟨⟨xs, ρ2⟩, e2, h⟩ := h
  obtain ⟨⟨r3, k3⟩, e3, h⟩ := h
  exact ⟨((r3, k3), ρ2), by walk_at "w", h⟩
theorem w_if (h : We t ρ fun x _ ρ1 => Br x (We a ρ1 P) (We b ρ1 P)) : We (eIf t a b) ρ P := by
  obtain ⟨⟨⟨x, k1⟩, ρ1⟩, e1, h⟩ := h
  obtain ⟨cc', e9, h1, h2⟩ := h
  dsimp only at e9 h1 h2
  subst e9
  cases cc'
  · have h := h2 rfl
    clear h1 h2
    obtain ⟨q, e5, h⟩ := h
    exact ⟨q, by walk_at "w", h⟩
  · have h := h1 rfl
    clear h1 h2
    obtain ⟨q, e5, h⟩ := h
    exact ⟨q, by walk_at "w", h⟩
theorem w_and (h : We a ρ fun x _ ρ1 => Br x (We b ρ1 P) (P (.bl false) false ρ1)) : We (eAnd a b) ρ P := by
  obtain ⟨⟨⟨x, k1⟩, ρ1⟩, e1, h⟩ := h
  obtain ⟨cc', e9, h1, h2⟩ := h
  dsimp only at e9 h1 h2
  subst e9
  cases cc'
  · have h := h2 rfl
    clear h1 h2
    exact ⟨((.bl false, false), ρ1), by walk_at "w", h⟩
  · have h := h1 rfl
    clear h1 h2
    obtain ⟨q, e5, h⟩ := h
    exact ⟨q, by walk_at "w", h⟩
theorem w_or (h : We a ρ fun x _ ρ1 => Br x (P (.bl true) false ρ1) (We b ρ1 P)) : We (eOr a b) ρ P := by
  obtain ⟨⟨⟨x, k1⟩, ρ1⟩, e1, h⟩ := h
  obtain ⟨cc', e9, h1, h2⟩ := h
  dsimp only at e9 h1 h2
  subst e9
  cases cc'
  · have h := h2 rfl
    clear h1 h2
    obtain ⟨q, e5, h⟩ := h
    exact ⟨q, by walk_at "w", h⟩
  · have h := h1 rfl
    clear h1 h2
    exact ⟨((.bl true, false), ρ1), by walk_at "w", h⟩
theorem w_not (h : We a ρ fun x _ ρ1 => BlK x fun c => P (.bl (!c)) false ρ1) : We (eNot a) ρ P := by
  obtain ⟨⟨⟨x, k1⟩, ρ1⟩, e1, c, e2, h⟩ := h
  dsimp only at e2
  subst e2
  exact ⟨((.bl (!c), false), ρ1), by walk_at "w", h⟩
theorem w_chain (h : We a ρ fun x _ ρ1 => We b ρ1 fun y _ ρ2 => Wr (f x y) fun r _ => Br r (We c ρ2 fun z _ ρ3 => Wr (g y z) fun d k => P d k ρ3) (P (.bl false) false ρ2)) : We (eChain f g a b c) ρ P := by
  obtain ⟨⟨⟨x, k1⟩, ρ1⟩, e1, h⟩ := h
  obtain ⟨⟨⟨y, k2⟩, ρ2⟩, e2, h⟩ := h
  obtain ⟨⟨r3, k3⟩, e3, h⟩ := h
  obtain ⟨cc', e9, h1, h2⟩ := h
  dsimp only at e9 h1 h2
  subst e9
  cases cc'
  · have h := h2 rfl
    clear h1 h2
    exact ⟨((.bl false, false), ρ2), by walk_at "w", h⟩
  · have h := h1 rfl
    clear h1 h2
    obtain ⟨⟨⟨z, k5⟩, ρ5⟩, e5, h⟩ := h
    obtain ⟨⟨r6, k6⟩, e6, h⟩ := h
    exact ⟨((r6, k6), ρ5), by walk_at "w", h⟩
theorem w_callR (h : Wl ρ i fun _ => Wa pre ρ fun xs ρ1 => Wa post ρ1 fun ys ρ2 => OwK ρ2 i fun d => WR G (xs ++ ys) d fun r k d' => P r k (ρ2.set i (.ow d'))) : We (eCallR G pre i post) ρ P := by
  obtain ⟨x, e0, h⟩ := h
  obtain ⟨⟨xs, ρ1⟩, e1, h⟩ := h
  obtain ⟨⟨ys, ρ2⟩, e2, h⟩ := h
  obtain ⟨d, e3, h⟩ := h
  obtain ⟨⟨⟨r, k⟩, d'⟩, e4, h⟩ := h
  exact ⟨((r, k), ρ2.set i (.ow d')), by walk_at "w", h⟩
theorem w_callT (h : Wa pre ρ fun xs ρ1 => We e ρ1 fun d k ρ2 => TruK k <| WR G xs d fun r k _ => P r k ρ2) : We (eCallT G pre e) ρ P := by
  obtain ⟨⟨xs, ρ1⟩, e1, h⟩ := h
  obtain ⟨⟨⟨x, k2⟩, ρ2⟩, e2, h⟩ := h
  obtain ⟨e3, h⟩ := h
  dsimp only at e3
  subst e3
  obtain ⟨⟨⟨r, k⟩, d'⟩, e4, h⟩ := h
  exact ⟨((r, k), ρ2), by walk_at "w", h⟩
theorem w_meth {n : Nat} (h : We a ρ fun x _ ρ1 => InsK n x <| Wa ms ρ1 fun xs ρ2 => Wr (F (x :: xs)) fun d k => P d k ρ2) : We (eMeth n F a ms) ρ P := by
  obtain ⟨⟨⟨x, k1⟩, ρ1⟩, e1, h⟩ := h
  obtain ⟨⟨fs, e0⟩, h⟩ := h
  dsimp only at e0
  subst e0
  have e6 : isIns n (.ins n fs) = .ok () := by simp only [isIns, if_true]
  obtain ⟨⟨xs, ρ2⟩, e2, h⟩ := h
  obtain ⟨⟨r3, k3⟩, e3, h⟩ := h
  exact ⟨((r3, k3), ρ2), by walk_at "w", h⟩
theorem w_methK {n : Nat} {q : List D → List D → List D} (h : We a ρ fun x _ ρ1 => InsK n x <| Wa ms ρ1 fun xs ρ2 => Wa ks ρ2 fun zs ρ3 => Wr (F (q (x :: xs) zs)) fun d k => P d k ρ3) : We (eMethK n F q a ms ks) ρ P := by
  obtain ⟨⟨⟨x, k1⟩, ρ1⟩, e1, h⟩ := h
  obtain ⟨⟨fs, e0⟩, h⟩ := h
  dsimp only at e0
  subst e0
  have e6 : isIns n (.ins n fs) = .ok () := by simp only [isIns, if_true]
  obtain ⟨⟨xs, ρ2⟩, e2, h⟩ := h
  obtain ⟨⟨zs, ρ4⟩, e4, h⟩ := h
  obtain ⟨⟨r3, k3⟩, e3, h⟩ := h
  exact ⟨((r3, k3), ρ4), by walk_at "w", h⟩
theorem w_nk {q : List D → List D → List D} (h : Wa ms ρ fun xs ρ2 => Wa ks ρ2 fun zs ρ3 => Wr (F (q xs zs)) fun d k => P d k ρ3) : We (eNK F q ms ks) ρ P := by
  obtain ⟨⟨xs, ρ2⟩, e2, h⟩ := h
  obtain ⟨⟨zs, ρ4⟩, e4, h⟩ := h
  obtain ⟨⟨r3, k3⟩, e3, h⟩ := h
  exact ⟨((r3, k3), ρ4), by walk_at "w", h⟩
theorem w_mut {f : D → List D → R (D × D)} (h : Wl ρ i fun x => LstK x <| Wa ms ρ fun xs ρ1 => OwK ρ1 i fun d => Wp (f d xs) fun q => P q.1 false (ρ1.set i (.ow q.2))) : We (eMut f i ms) ρ P := by
  obtain ⟨x, e0, h⟩ := h
  obtain ⟨⟨fs, e5⟩, h⟩ := h
  subst e5
  have e6 : isL (.lst fs) = .ok () := rfl
  obtain ⟨⟨xs, ρ2⟩, e2, h⟩ := h
  obtain ⟨d, e3, h⟩ := h
  obtain ⟨⟨r, d'⟩, e4, h⟩ := h
  exact ⟨((r, false), ρ2.set i (.ow d')), by walk_at "w", h⟩
theorem w_get {f : D → D → D → R Rv} (h : We a ρ fun x _ ρ1 => We k ρ1 fun y _ ρ2 => We z ρ2 fun w _ ρ3 => Wr (f x y w) fun d k => P d k ρ3) : We (eGet f a k z) ρ P := by
  obtain ⟨⟨⟨x, k1⟩, ρ1⟩, e1, h⟩ := h
  obtain ⟨⟨⟨y, k2⟩, ρ2⟩, e2, h⟩ := h
  obtain ⟨⟨⟨z', k3⟩, ρ3⟩, e3, h⟩ := h
  obtain ⟨⟨r4, k4⟩, e4, h⟩ := h
  exact ⟨((r4, k4), ρ3), by walk_at "w", h⟩
theorem w_getS {f : D → D → D → R Rv} (h : Wl ρ i fun x0 => We k ρ fun y _ ρ2 => We z ρ2 fun w _ ρ3 => Wl ρ3 i fun x => Wr (f x0 y w) fun _ _ => Wr (f x y w) fun d k => P d k ρ3) : We (eGetS f i k z) ρ P := by
  obtain ⟨x, e0, h⟩ := h
  obtain ⟨⟨⟨y, k2⟩, ρ2⟩, e2, h⟩ := h
  obtain ⟨⟨⟨z', k3⟩, ρ3⟩, e3, h⟩ := h
  obtain ⟨x', e6, h⟩ := h
  obtain ⟨⟨r5, k5⟩, e5, h⟩ := h
  obtain ⟨⟨r4, k4⟩, e4, h⟩ := h
  exact ⟨((r4, k4), ρ3), by walk_at "w", h⟩
def Wo (o : Option Ev) (ρ : Env) (P : Option Int → Env → Prop) : Prop := Wp (part o ρ) fun x => P x.1 x.2
theorem o_none {P : Option Int → Env → Prop} (h : P none ρ) : Wo none ρ P := Wp.ok h
theorem o_some {P : Option Int → Env → Prop} (h : We e ρ fun x _ ρ1 => IntK x fun i => P (some i) ρ1) : Wo (some e) ρ P := by
  obtain ⟨⟨⟨x, k1⟩, ρ1⟩, e1, i, e2, h⟩ := h
  dsimp only at e2
  subst e2
  exact ⟨(some i, ρ1), by simp only [part, val, e1, bind, R.bind, pure], h⟩
theorem w_slice {lo hi : Option Ev} (h : We a ρ fun x _ ρ1 => Wo lo ρ1 fun l ρ2 => Wo hi ρ2 fun u ρ3 => Wr (sliceD l u x) fun d k => P d k ρ3) : We (eSlice a lo hi) ρ P := by
  obtain ⟨⟨⟨x, k1⟩, ρ1⟩, e1, h⟩ := h
  obtain ⟨⟨l, ρ2⟩, e2, h⟩ := h
  obtain ⟨⟨u, ρ3⟩, e3, h⟩ := h
  obtain ⟨⟨r4, k4⟩, e4, h⟩ := h
  exact ⟨((r4, k4), ρ3), by walk_at "w", h⟩
theorem w_sel {f g : D → D → R Rv} {q : D → D → Bool} {x y : D} (hq : q x y = true) (h : Wr (f x y) Q) : Wr (sel q f g x y) Q := by unfold sel; rw [if_pos hq]; exact h
theorem w_self {f g : D → D → R Rv} {q : D → D → Bool} {x y : D} (hq : q x y = false) (h : Wr (g x y) Q) : Wr (sel q f g x y) Q := by unfold sel; rw [if_neg (by rw [hq]; exact Bool.false_ne_true)]; exact h
theorem w_sel1 {f g : D → R Rv} {q : D → Bool} {x : D} (hq : q x = true) (h : Wr (f x) Q) : Wr (sel1 q f g x) Q := by unfold sel1; rw [if_pos hq]; exact h
end
/-! statements -/
section
variable {ρ : Env} {P : Out → Env → Prop} {a b : Sv} {t e v : Ev} {i j : Nat} {d : D} {w : Bool} {g : Tg} {it : Iv}

local macro_rules | `(tactic| walk_at "w") => `(tactic| (simp only [eBin, eUn, eBor, eBorR, eBor1, eN, eIf, eAnd, eOr, eNot, eChain, eCallR, eCallT, eMeth, eMethK, eNK, eMut, eGet, eGetS, eSlice, sAsgT, sExpr, sRet, sRetV, sIf, sPut, sFld, val, evs, bind, R.bind, pure, isB, if_true, if_false, Bool.false_eq_true, *]))
def seqK (b : Sv) (P : Out → Env → Prop) : Out → Env → Prop
  | .nx, ρ => Ws b ρ P
  | o, ρ => P o ρ
theorem s_seq (h : Ws a ρ (seqK b P)) : Ws (sSeq a b) ρ P := Wp.bind (Wp.mono h fun x h => by
  obtain ⟨o, ρ1⟩ := x
  cases o with
  | nx => exact h
  | _ => exact Wp.ok h)
theorem k_nx (h : Ws b ρ P) : seqK b P .nx ρ := h
theorem k_rt {r : Rv} (h : P (.rt r) ρ) : seqK b P (.rt r) ρ := h
theorem k_bk (h : P .bk ρ) : seqK b P .bk ρ := h
theorem k_ct (h : P .ct ρ) : seqK b P .ct ρ := h
theorem s_next (h : P .nx ρ) : Ws sNext ρ P := Wp.ok h
theorem s_break (h : P .bk ρ) : Ws sBreak ρ P := Wp.ok h
theorem s_cont (h : P .ct ρ) : Ws sCont ρ P := Wp.ok h
/-- what a name takes -/
def kp (d : D) : Bool → Slot
  | true => .ow d
  | false => .sh d
theorem keep_t (x : Rv) : keep true x = kp x.1 x.2 := by obtain ⟨d, b⟩ := x; cases b <;> rfl
theorem keep_f (x : Rv) : keep false x = .sh x.1 := by obtain ⟨d, b⟩ := x; cases b <;> rfl
theorem s_asgT (h : We e ρ fun d b ρ1 => P .nx (ρ1.set i (kp d b))) : Ws (sAsg true i e) ρ P := by
  obtain ⟨x, e1, h⟩ := h
  exact ⟨(.nx, x.2.set i (kp x.1.1 x.1.2)), by simp only [sAsg, e1, bind, R.bind, pure, keep_t], h⟩
theorem s_asgF (h : We e ρ fun d b ρ1 => P .nx (ρ1.set i (.sh d))) : Ws (sAsg false i e) ρ P := by
  obtain ⟨x, e1, h⟩ := h
  exact ⟨(.nx, x.2.set i (.sh x.1.1)), by simp only [sAsg, e1, bind, R.bind, pure, keep_f], h⟩
theorem s_parT {a b : Ev} (h : We a ρ fun d k ρ1 => We b ρ1 fun d' k' ρ2 => P .nx ((ρ2.set i (kp d k)).set j (kp d' k'))) : Ws (sPar true i j a b) ρ P := by
  obtain ⟨⟨x, ρ1⟩, e1, ⟨y, ρ2⟩, e2, h⟩ := h
  dsimp only at e2
  exact ⟨(.nx, (ρ2.set i (kp x.1 x.2)).set j (kp y.1 y.2)), by simp only [sPar, e1, e2, bind, R.bind, pure, keep_t], h⟩
theorem s_parF {a b : Ev} (h : We a ρ fun d k ρ1 => We b ρ1 fun d' k' ρ2 => P .nx ((ρ2.set i (.sh d)).set j (.sh d'))) : Ws (sPar false i j a b) ρ P := by
  obtain ⟨⟨x, ρ1⟩, e1, ⟨y, ρ2⟩, e2, h⟩ := h
  dsimp only at e2
  exact ⟨(.nx, (ρ2.set i (.sh x.1)).set j (.sh y.1)), by simp only [sPar, e1, e2, bind, R.bind, pure, keep_f], h⟩
theorem g_n {Q : Env → Prop} (h : Q (ρ.set i (.sh d))) : Wg (gN i) d ρ Q := Wp.ok h
theorem g_2 {g1 g2 : Tg} {x y : D} {Q : Env → Prop} (h : Wg g1 x ρ fun ρ1 => Wg g2 y ρ1 Q) : Wg (gT [g1, g2]) (.tup [x, y]) ρ Q := by
  obtain ⟨ρ1, e1, ρ2, e2, h⟩ := h
  exact ⟨ρ2, by simp only [gT, gGo, e1, e2, bind, R.bind], h⟩
theorem g_3 {g1 g2 g3 : Tg} {x y z : D} {Q : Env → Prop} (h : Wg g1 x ρ fun ρ1 => Wg g2 y ρ1 fun ρ2 => Wg g3 z ρ2 Q) : Wg (gT [g1, g2, g3]) (.tup [x, y, z]) ρ Q := by
  obtain ⟨ρ1, e1, ρ2, e2, ρ3, e3, h⟩ := h
  exact ⟨ρ3, by simp only [gT, gGo, e1, e2, e3, bind, R.bind], h⟩
theorem s_asgG (h : We e ρ fun x _ ρ1 => Wg g x ρ1 fun ρ2 => P .nx ρ2) : Ws (sAsgT g e) ρ P := by
  obtain ⟨⟨⟨x, k1⟩, ρ1⟩, e1, h⟩ := h
  obtain ⟨ρ2, e2, h⟩ := h
  exact ⟨(.nx, ρ2), by walk_at "w", h⟩
theorem s_expr (h : We e ρ fun _ _ ρ1 => P .nx ρ1) : Ws (sExpr e) ρ P := by
  obtain ⟨⟨⟨x, k1⟩, ρ1⟩, e1, h⟩ := h
  exact ⟨(.nx, ρ1), by walk_at "w", h⟩
theorem s_ret (h : We e ρ fun d b ρ1 => P (.rt (d, b)) ρ1) : Ws (sRet e) ρ P := by
  obtain ⟨⟨⟨x, k1⟩, ρ1⟩, e1, h⟩ := h
  exact ⟨(.rt (x, k1), ρ1), by walk_at "w", h⟩
theorem s_retV (h : We (eMove i) ρ fun d b ρ1 => P (.rt (d, b)) ρ1) : Ws (sRetV i) ρ P := by
  obtain ⟨⟨⟨x, k1⟩, ρ1⟩, e1, h⟩ := h
  exact ⟨(.rt (x, k1), ρ1), by walk_at "w", h⟩
theorem s_retN (h : P (.rt (.non, false)) ρ) : Ws sRetN ρ P := Wp.ok h
theorem s_if (h : We t ρ fun x _ ρ1 => Br x (Ws a ρ1 P) (Ws b ρ1 P)) : Ws (sIf t a b) ρ P := by
  obtain ⟨⟨⟨x, k1⟩, ρ1⟩, e1, h⟩ := h
  obtain ⟨cc', e9, h1, h2⟩ := h
  dsimp only at e9 h1 h2
  subst e9
  cases cc'
  · have h := h2 rfl
    clear h1 h2
    obtain ⟨q, e5, h⟩ := h
    exact ⟨q, by walk_at "w", h⟩
  · have h := h1 rfl
    clear h1 h2
    obtain ⟨q, e5, h⟩ := h
    exact ⟨q, by walk_at "w", h⟩
theorem s_put {f : D → D → D → R D} (h : We v ρ fun y _ ρ1 => Wl ρ1 i fun _ => We e ρ1 fun x _ ρ2 => OwK ρ2 i fun d => Wp (f d x y) fun d' => P .nx (ρ2.set i (.ow d'))) : Ws (sPut f i e v) ρ P := by
  obtain ⟨⟨⟨y, k1⟩, ρ1⟩, e1, h⟩ := h
  obtain ⟨x0, e0, h⟩ := h
  obtain ⟨⟨⟨x, k2⟩, ρ2⟩, e2, h⟩ := h
  obtain ⟨d, e3, h⟩ := h
  obtain ⟨d', e4, h⟩ := h
  exact ⟨(.nx, ρ2.set i (.ow d')), by walk_at "w", h⟩
def FldK (ρ : Env) (c k : Nat) (Q : List D → Prop) : Prop := ∃ fs, ρ[0]? = some (.ow (.ins c fs)) ∧ k = fs.length ∧ Q fs
theorem fld_go {c k : Nat} {fs : List D} {Q : List D → Prop} (h0 : ρ[0]? = some (.ow (.ins c fs))) (hk : k = fs.length) (h : Q fs) : FldK ρ c k Q := ⟨fs, h0, hk, h⟩
theorem s_fld {c k : Nat} (h : We e ρ fun y _ ρ1 => FldK ρ1 c k fun fs => P .nx (ρ1.set 0 (.ow (.ins c (fs ++ [y]))))) : Ws (sFld c k e) ρ P := by
  obtain ⟨⟨⟨y, k1⟩, ρ1⟩, e1, fs, e2, rfl, h⟩ := h
  dsimp only at e2
  exact ⟨(.nx, ρ1.set 0 (.ow (.ins c (fs ++ [y])))), by simp only [sFld, val, e1, e2, bind, R.bind, pure, and_self, if_true], h⟩
/-! defs -/
def endK (Q : D → Bool → Prop) : Out → Env → Prop
  | .nx, _ => Q .non false
  | .rt r, _ => Q r.1 r.2
  | _, _ => False
theorem e_rt {Q : D → Bool → Prop} {d : D} {b : Bool} (h : Q d b) : endK Q (.rt (d, b)) ρ := h
theorem e_nx {Q : D → Bool → Prop} (h : Q .non false) : endK Q .nx ρ := h
theorem f_in {n p : Nat} {ds : List D} {Q : D → Bool → Prop} (hp : ds.length = p) (h : Ws a (slots n ds) (endK Q)) : Wr (mkFn n p a ds) Q := by
  obtain ⟨⟨o, ρ1⟩, e1, h⟩ := h
  unfold mkFn
  rw [if_pos hp]
  cases o with
  | nx => exact ⟨(.non, false), by simp only [e1, bind, R.bind, endOf], h⟩
  | rt r => exact ⟨r, by simp only [e1, bind, R.bind, endOf], h⟩
  | bk => exact h.elim
  | ct => exact h.elim
/-- the lent object's slot at the end -/
def endR (j : Nat) (Q : D → Bool → D → Prop) : Out → Env → Prop
  | .nx, ρ => ∃ d, ρ[j]? = some (.ow d) ∧ Q .non false d
  | .rt r, ρ => ∃ d, ρ[j]? = some (.ow d) ∧ Q r.1 r.2 d
  | _, _ => False
theorem r_rt {Q : D → Bool → D → Prop} {d d' : D} {b : Bool} (hj : ρ[j]? = some (.ow d')) (h : Q d b d') : endR j Q (.rt (d, b)) ρ := ⟨d', hj, h⟩
theorem r_nx {Q : D → Bool → D → Prop} {d' : D} (hj : ρ[j]? = some (.ow d')) (h : Q .non false d') : endR j Q .nx ρ := ⟨d', hj, h⟩
theorem r_in {n p : Nat} {ds : List D} {Q : D → Bool → D → Prop} (hp : ds.length + 1 = p) (hj : j < p) (h : Ws a ((slots n (ds.take j ++ d :: ds.drop j)).set j (.ow d)) (endR j Q)) : WR (mkFnR n p j a) ds d Q := by
  obtain ⟨⟨o, ρ1⟩, e1, h⟩ := h
  unfold WR mkFnR
  rw [if_pos ⟨hp, hj⟩]
  cases o with
  | nx => obtain ⟨d', e2, h⟩ := h; exact ⟨((.non, false), d'), by dsimp only at e2; simp only [e1, e2, bind, R.bind, endOf], h⟩
  | rt r => obtain ⟨d', e2, h⟩ := h; exact ⟨(r, d'), by dsimp only at e2; simp only [e1, e2, bind, R.bind, endOf], h⟩
  | bk => exact h.elim
  | ct => exact h.elim
theorem f_obj {c : Nat} {G : FnR} {ds : List D} {Q : D → Bool → Prop} (h : WR G ds (.ins c []) fun r b d => r = .non ∧ b = false ∧ Q d false) : Wr (mkObj c G ds) Q := by
  obtain ⟨⟨⟨r, k⟩, d⟩, e1, e2, e3, h⟩ := h
  dsimp only at e2 e3
  subst e2 e3
  exact ⟨(d, false), by simp only [mkObj, e1, bind, R.bind], h⟩
/-! walks -/
theorem i_val {Q : List D → Env → Prop} (h : We e ρ fun x _ ρ1 => Wp (items x) fun ds => Q ds ρ1) : Wi (iVal e) ρ Q := by
  obtain ⟨⟨⟨x, k1⟩, ρ1⟩, e1, ds, e2, h⟩ := h
  dsimp only at e2
  exact ⟨(ds, ρ1), by simp only [iVal, val, e1, e2, bind, R.bind, pure], h⟩
theorem i_r1 {Q : List D → Env → Prop} (h : We e ρ fun x _ ρ1 => IntK x fun j => RgK j (Q (rng 0 j.toNat) ρ1)) : Wi (iRange [e]) ρ Q := by
  obtain ⟨⟨⟨x, k1⟩, ρ1⟩, e1, j, e2, hz, h⟩ := h
  dsimp only at e2
  subst e2
  exact ⟨(rng 0 j.toNat, ρ1), by simp only [iRange, evs, val, e1, bind, R.bind, pure, if_pos hz], h⟩
theorem i_r2 {e' : Ev} {Q : List D → Env → Prop} (h : We e ρ fun x _ ρ1 => We e' ρ1 fun y _ ρ2 => IntK x fun i => IntK y fun j => RgK i <| RgK j <| Q (rng i (j - i).toNat) ρ2) : Wi (iRange [e, e']) ρ Q := by
  obtain ⟨⟨⟨x, k1⟩, ρ1⟩, e1, ⟨⟨y, k2⟩, ρ2⟩, e2, i, e3, j, e4, hz1, hz2, h⟩ := h
  have hz := And.intro hz1 hz2
  dsimp only at e2 e3 e4
  subst e3 e4
  exact ⟨(rng i (j - i).toNat, ρ2), by simp only [iRange, evs, val, e1, e2, bind, R.bind, pure, if_pos hz], h⟩
theorem i_ksh {kvs : List (Ky × D)} {Q : List D → Env → Prop} (hi : ρ[i]? = some (.sh (.dic kvs))) (h : Q (kvs.map fun kv => kyD kv.1) ρ) : Wi (iKeys i) ρ Q := ⟨(kvs.map fun kv => kyD kv.1, ρ), by simp only [iKeys, hi], h⟩
theorem i_kow {kvs : List (Ky × D)} {Q : List D → Env → Prop} (hi : ρ[i]? = some (.ow (.dic kvs))) (h : Q (kvs.map fun kv => kyD kv.1) (ρ.set i (.sh (.dic kvs)))) : Wi (iKeys i) ρ Q := ⟨(kvs.map fun kv => kyD kv.1, ρ.set i (.sh (.dic kvs))), by simp only [iKeys, hi], h⟩
def Wf (g : Tg) (b : Sv) (ds : List D) (ρ : Env) (P : Out → Env → Prop) : Prop := Wp (forGo g b ds ρ) fun x => P x.1 x.2
/-- behind a round -/
def forK (I : Env → Prop) (P : Out → Env → Prop) : Out → Env → Prop
  | .nx, ρ => I ρ
  | .ct, ρ => I ρ
  | .bk, ρ => P .nx ρ
  | .rt r, ρ => P (.rt r) ρ
theorem fk_nx {I : Env → Prop} (h : I ρ) : forK I P .nx ρ := h
theorem fk_ct {I : Env → Prop} (h : I ρ) : forK I P .ct ρ := h
theorem fk_bk {I : Env → Prop} (h : P .nx ρ) : forK I P .bk ρ := h
theorem fk_rt {I : Env → Prop} {r : Rv} (h : P (.rt r) ρ) : forK I P (.rt r) ρ := h
theorem s_for (h : Wi it ρ fun ds ρ1 => Wf g b ds ρ1 P) : Ws (sFor it g b) ρ P := by
  obtain ⟨⟨ds, ρ1⟩, e1, x, e2, h⟩ := h
  dsimp only at e2
  exact ⟨x, by simp only [sFor, e1, e2, bind, R.bind], h⟩
theorem for_nil (h : P .nx ρ) : Wf g b [] ρ P := Wp.ok h
theorem for_cons {ds : List D} (h : Wg g d ρ fun ρ1 => Ws b ρ1 (forK (fun ρ2 => Wf g b ds ρ2 P) P)) : Wf g b (d :: ds) ρ P := by
  obtain ⟨ρ1, e1, ⟨o, ρ2⟩, e2, h⟩ := h
  cases o with
  | nx => obtain ⟨x, e3, h⟩ := h; dsimp only at e3; exact ⟨x, by simp only [forGo, e1, e2, e3, bind, R.bind], h⟩
  | ct => obtain ⟨x, e3, h⟩ := h; dsimp only at e3; exact ⟨x, by simp only [forGo, e1, e2, e3, bind, R.bind], h⟩
  | bk => exact ⟨(.nx, ρ2), by simp only [forGo, e1, e2, bind, R.bind], h⟩
  | rt r => exact ⟨(.rt r, ρ2), by simp only [forGo, e1, e2, bind, R.bind], h⟩
theorem for_inv {α : Type} {mk : α → D} (I : List α → Env → Prop) : ∀ (xs done : List α) {ρ : Env}, I done ρ → (∀ done x rest ρ, I done ρ → done ++ x :: rest = done ++ x :: rest → Wg g (mk x) ρ fun ρ1 => Ws b ρ1 (forK (I (done ++ [x])) P)) → (∀ ρ, I (done ++ xs) ρ → P .nx ρ) → Wf g b (xs.map mk) ρ P
  | [], done, ρ, h0, hs, he => for_nil (he ρ (by rw [List.append_nil]; exact h0))
  | x :: xs, done, ρ, h0, hs, he => by
    refine for_cons (Wp.mono (hs done x xs ρ h0 rfl) fun ρ1 h => Ws.mono h fun o ρ2 h => ?_)
    cases o with
    | nx => exact for_inv I xs (done ++ [x]) h hs (fun ρ q => he ρ (by rw [List.append_assoc] at q; exact q))
    | ct => exact for_inv I xs (done ++ [x]) h hs (fun ρ q => he ρ (by rw [List.append_assoc] at q; exact q))
    | bk => exact h
    | rt r => exact h
/-- a walk whose rounds all go on; k rounds are done -/
theorem for_n {α : Type} {mk : α → D} (xs : List α) (I : Nat → Env → Prop) (h0 : I 0 ρ) (hs : ∀ k x ρ, xs[k]? = some x → I k ρ → Wg g (mk x) ρ fun ρ1 => Ws b ρ1 (forK (I (k + 1)) P)) (he : ∀ ρ, I xs.length ρ → P .nx ρ) : Wf g b (xs.map mk) ρ P := by
  have go : ∀ (ys : List α) (k : Nat) (ρ : Env), (∀ i, ys[i]? = xs[k + i]?) → k + ys.length = xs.length → I k ρ → Wf g b (ys.map mk) ρ P := fun ys => by
    induction ys with
    | nil => intro k ρ hy hl h; exact for_nil (he ρ (by rw [← hl]; exact h))
    | cons y ys ih =>
      intro k ρ hy hl h
      refine for_cons (Wp.mono (hs k y ρ (by have := hy 0; rw [Nat.add_zero] at this; rw [← this]; rfl) h) fun ρ1 h => Ws.mono h fun o ρ2 h => ?_)
      have nxt : I (k + 1) ρ2 → Wf g b (ys.map mk) ρ2 P := ih (k + 1) ρ2 (fun i => by have := hy (i + 1); rw [show k + (i + 1) = k + 1 + i by omega] at this; rw [← this]; rfl) (by rw [List.length_cons] at hl; omega)
      cases o with
      | nx => exact nxt h
      | ct => exact nxt h
      | bk => exact h
      | rt r => exact h
  exact go xs 0 ρ (fun i => by rw [Nat.zero_add]) (by rw [Nat.zero_add]) h0
def Ww (t : Ev) (b : Sv) (n : Nat) (ρ : Env) (P : Out → Env → Prop) : Prop := Wp (whileGo t b n ρ) fun x => P x.1 x.2
theorem wh_step {n : Nat} (h : We t ρ fun x _ ρ1 => Br x (Ws b ρ1 (forK (fun ρ2 => Ww t b n ρ2 P) P)) (P .nx ρ1)) : Ww t b (n + 1) ρ P := by
  obtain ⟨⟨⟨x, k1⟩, ρ1⟩, e1, c, e2, h1, h2⟩ := h
  dsimp only at e2 h1 h2
  subst e2
  have st : whileGo t b (n + 1) ρ = (do
      let (x, ρ1) ← val t ρ
      let c ← isB x
      if c then do
        let (o, ρ2) ← b ρ1
        match o with
        | .nx => whileGo t b n ρ2
        | .ct => whileGo t b n ρ2
        | .bk => .ok (.nx, ρ2)
        | .rt r => .ok (.rt r, ρ2)
      else .ok (.nx, ρ1)) := rfl
  have tv : val t ρ = .ok (.bl c, ρ1) := by simp only [val, e1, bind, R.bind, pure]
  unfold Ww
  rw [st, tv]
  cases c with
  | false => exact ⟨(.nx, ρ1), by simp only [bind, R.bind, isB, Bool.false_eq_true, if_false], h2 rfl⟩
  | true =>
    obtain ⟨⟨o, ρ2⟩, e3, h⟩ := h1 rfl
    cases o with
    | nx => obtain ⟨y, e4, h⟩ := h; dsimp only at e4; exact ⟨y, by simp only [e3, e4, bind, R.bind, isB, if_true], h⟩
    | ct => obtain ⟨y, e4, h⟩ := h; dsimp only at e4; exact ⟨y, by simp only [e3, e4, bind, R.bind, isB, if_true], h⟩
    | bk => exact ⟨(.nx, ρ2), by simp only [e3, bind, R.bind, isB, if_true], h⟩
    | rt r => exact ⟨(.rt r, ρ2), by simp only [e3, bind, R.bind, isB, if_true], h⟩
theorem s_while (M : Env → Nat) (I : Env → Prop) (h0 : I ρ) (hM : ∀ ρ, I ρ → M ρ < fuel) (hs : ∀ ρ, I ρ → We t ρ fun x _ ρ1 => Br x (Ws b ρ1 (forK (fun ρ2 => I ρ2 ∧ M ρ2 < M ρ) P)) (P .nx ρ1)) : Ws (sWhile t b) ρ P := by
  have go : ∀ (n : Nat) (ρ : Env), I ρ → M ρ < n → Ww t b n ρ P := fun n => by
    induction n with
    | zero => intro ρ _ h; omega
    | succ n ih =>
      intro ρ h hl
      refine wh_step (We.mono (hs ρ h) fun x _ ρ1 h => h.mono (fun h => Ws.mono h fun o ρ2 h => ?_) id)
      cases o with
      | nx => exact ih ρ2 h.1 (by have := h.2; omega)
      | ct => exact ih ρ2 h.1 (by have := h.2; omega)
      | bk => exact h
      | rt r => exact h
  exact go fuel ρ h0 (hM ρ h0)
/-! comprehensions -/
def Wc (c : Option Ev) (ρ : Env) (A B : Env → Prop) : Prop := Wp (cond c ρ) fun x => (x.1 = true → A x.2) ∧ (x.1 = false → B x.2)
theorem c_none {A B : Env → Prop} (h : A ρ) : Wc none ρ A B := ⟨(true, ρ), rfl, fun _ => h, fun z => nomatch z⟩
theorem c_some {A B : Env → Prop} (h : We t ρ fun x _ ρ1 => Br x (A ρ1) (B ρ1)) : Wc (some t) ρ A B := by
  obtain ⟨⟨⟨x, k1⟩, ρ1⟩, e1, c, e2, h1, h2⟩ := h
  dsimp only at e2 h1 h2
  subst e2
  exact ⟨(c, ρ1), by simp only [cond, val, e1, bind, R.bind, isB, pure], h1, h2⟩
def WL (g : Tg) (c : Option Ev) (e : Ev) (vs : List Nat) (ds acc : List D) (ρ : Env) (Q : List D → Env → Prop) : Prop := Wp (lcGo g c e vs ds acc ρ) fun x => Q x.1 x.2
theorem w_lc {c : Option Ev} {vs : List Nat} {P : D → Bool → Env → Prop} (h : Wi it ρ fun ds ρ1 => noOw ρ1 vs = true ∧ ds.length ≤ 1000 ∧ WL g c e vs ds [] ρ1 fun acc ρ2 => P (.lst acc) true (backS ρ1 ρ2 vs)) : We (eLc it g c e vs) ρ P := by
  obtain ⟨⟨ds, ρ1⟩, e1, e2, e3, ⟨acc, ρ2⟩, e4, h⟩ := h
  dsimp only at e2 e3 e4
  exact ⟨((.lst acc, true), backS ρ1 ρ2 vs), by simp only [eLc, e1, e2, e3, e4, bind, R.bind, pure, decide_true, Bool.and_self, if_true], h⟩
theorem lc_nil {c : Option Ev} {vs : List Nat} {acc : List D} {Q : List D → Env → Prop} (h : Q acc ρ) : WL g c e vs [] acc ρ Q := Wp.ok h
theorem lc_cons {c : Option Ev} {vs : List Nat} {ds acc : List D} {Q : List D → Env → Prop} (h : Wg g d (wipeS ρ vs) fun ρ1 => Wc c ρ1 (fun ρ2 => We e ρ2 fun y _ ρ3 => WL g c e vs ds (acc ++ [y]) ρ3 Q) (fun ρ2 => WL g c e vs ds acc ρ2 Q)) : WL g c e vs (d :: ds) acc ρ Q := by
  obtain ⟨ρ1, e1, ⟨k, ρ2⟩, e2, h1, h2⟩ := h
  dsimp only at h1 h2
  cases k with
  | false => obtain ⟨x, e3, h⟩ := h2 rfl; exact ⟨x, by simp only [lcGo, e1, e2, e3, bind, R.bind, Bool.false_eq_true, if_false], h⟩
  | true =>
    obtain ⟨⟨⟨y, k1⟩, ρ3⟩, e3, x, e4, h⟩ := h1 rfl
    dsimp only at e4
    exact ⟨x, by simp only [lcGo, val, e1, e2, e3, e4, bind, R.bind, pure, if_true], h⟩
/-- with an invariant -/
theorem lc_n {α : Type} {mk : α → D} {c : Option Ev} {vs : List Nat} {Q : List D → Env → Prop} (xs : List α) (I : Nat → List D → Env → Prop) (h0 : I 0 [] ρ) (hs : ∀ k x acc ρ, xs[k]? = some x → I k acc ρ → Wg g (mk x) (wipeS ρ vs) fun ρ1 => Wc c ρ1 (fun ρ2 => We e ρ2 fun y _ ρ3 => I (k + 1) (acc ++ [y]) ρ3) (fun ρ2 => I (k + 1) acc ρ2)) (he : ∀ acc ρ, I xs.length acc ρ → Q acc ρ) : WL g c e vs (xs.map mk) [] ρ Q := by
  have go : ∀ (ys : List α) (k : Nat) (acc : List D) (ρ : Env), (∀ i, ys[i]? = xs[k + i]?) → k + ys.length = xs.length → I k acc ρ → WL g c e vs (ys.map mk) acc ρ Q := fun ys => by
    induction ys with
    | nil => intro k acc ρ hy hl h; exact lc_nil (he acc ρ (by rw [← hl]; exact h))
    | cons y ys ih =>
      intro k acc ρ hy hl h
      have nxt : ∀ acc ρ2, I (k + 1) acc ρ2 → WL g c e vs (ys.map mk) acc ρ2 Q := fun acc ρ2 => ih (k + 1) acc ρ2 (fun i => by have := hy (i + 1); rw [show k + (i + 1) = k + 1 + i by omega] at this; rw [← this]; rfl) (by rw [List.length_cons] at hl; omega)
      exact lc_cons (Wp.mono (hs k y acc ρ (by have := hy 0; rw [Nat.add_zero] at this; rw [← this]; rfl) h) fun ρ1 h => Wp.mono h fun x h => ⟨fun z => We.mono (h.1 z) fun y _ ρ3 h => nxt _ _ h, fun z => nxt _ _ (h.2 z)⟩)
  exact go xs 0 [] ρ (fun i => by rw [Nat.zero_add]) (by rw [Nat.zero_add]) h0
/-- an element is a function of what is walked, the slots stay but for the comprehension's own -/
theorem lc_map {α : Type} {mk : α → D} {c : Option Ev} {vs : List Nat} {Q : List D → Env → Prop} (xs : List α) (en : α → Env) (f : α → Option D)
    (hg : ∀ x ∈ xs, g (mk x) (wipeS ρ vs) = .ok (en x)) (hw : ∀ x ∈ xs, wipeS (en x) vs = wipeS ρ vs)
    (hs : ∀ x ∈ xs, Wc c (en x) (fun ρ2 => We e ρ2 fun y _ ρ3 => f x = some y ∧ ρ3 = en x) (fun ρ2 => f x = none ∧ ρ2 = en x)) (he : ∀ ρ', (ρ' = ρ ∨ ∃ x ∈ xs, ρ' = en x) → Q (xs.filterMap f) ρ') : WL g c e vs (xs.map mk) [] ρ Q := by
  refine lc_n xs (fun k acc ρ' => acc = (xs.take k).filterMap f ∧ (ρ' = ρ ∨ ∃ x ∈ xs, ρ' = en x)) ⟨by simp, .inl rfl⟩ (fun k x acc ρ' hx h => ?_) (fun acc ρ' h => ?_)
  · obtain ⟨rfl, h⟩ := h
    have mem := List.mem_of_getElem? hx
    have wi : wipeS ρ' vs = wipeS ρ vs := by
      rcases h with rfl | ⟨y, hy, rfl⟩
      · rfl
      · exact hw y hy
    have tk : xs.take (k + 1) = xs.take k ++ [x] := by rw [List.take_add_one, hx]; rfl
    refine ⟨en x, by rw [wi]; exact hg x mem, Wp.mono (hs x mem) fun p h => ⟨fun z => We.mono (h.1 z) fun y _ ρ3 q => ⟨?_, .inr ⟨x, mem, q.2⟩⟩, fun z => ⟨?_, .inr ⟨x, mem, (h.2 z).2⟩⟩⟩⟩
    · rw [tk, List.filterMap_append, List.filterMap_cons, q.1]; rfl
    · rw [tk, List.filterMap_append, List.filterMap_cons, (h.2 z).1]; simp
  · rw [h.1, List.take_length]; exact he ρ' h.2
/-! dicts -/
def WD (g : Tg) (c : Option Ev) (ek ev : Ev) (vs : List Nat) (ds : List D) (acc : List (Ky × D)) (ρ : Env) (Q : List (Ky × D) → Env → Prop) : Prop := Wp (dcGo g c ek ev vs ds acc ρ) fun x => Q x.1 x.2
theorem w_dc {c : Option Ev} {ek ev : Ev} {vs : List Nat} {P : D → Bool → Env → Prop} (h : Wi it ρ fun ds ρ1 => noOw ρ1 vs = true ∧ ds.length ≤ 1000 ∧ WD g c ek ev vs ds [] ρ1 fun acc ρ2 => P (.dic acc) true (backS ρ1 ρ2 vs)) : We (eDc it g c ek ev vs) ρ P := by
  obtain ⟨⟨ds, ρ1⟩, e1, e2, e3, ⟨acc, ρ2⟩, e4, h⟩ := h
  dsimp only at e2 e3 e4
  exact ⟨((.dic acc, true), backS ρ1 ρ2 vs), by simp only [eDc, e1, e2, e3, e4, bind, R.bind, pure, decide_true, Bool.and_self, if_true], h⟩
theorem dc_nil {c : Option Ev} {ek ev : Ev} {vs : List Nat} {acc : List (Ky × D)} {Q : List (Ky × D) → Env → Prop} (h : Q acc ρ) : WD g c ek ev vs [] acc ρ Q := Wp.ok h
theorem dc_cons {c : Option Ev} {ek ev : Ev} {vs : List Nat} {ds : List D} {acc : List (Ky × D)} {Q : List (Ky × D) → Env → Prop} (h : Wg g d (wipeS ρ vs) fun ρ1 => Wc c ρ1 (fun ρ2 => We ek ρ2 fun y _ ρ3 => We ev ρ3 fun z _ ρ4 => Wp (keyOf y) fun q => WD g c ek ev vs ds (dput acc q z) ρ4 Q) (fun ρ2 => WD g c ek ev vs ds acc ρ2 Q)) : WD g c ek ev vs (d :: ds) acc ρ Q := by
  obtain ⟨ρ1, e1, ⟨k, ρ2⟩, e2, h1, h2⟩ := h
  dsimp only at h1 h2
  cases k with
  | false => obtain ⟨x, e3, h⟩ := h2 rfl; exact ⟨x, by simp only [dcGo, e1, e2, e3, bind, R.bind, Bool.false_eq_true, if_false], h⟩
  | true =>
    obtain ⟨⟨⟨y, k1⟩, ρ3⟩, e3, ⟨⟨z, k2⟩, ρ4⟩, e4, q, e5, x, e6, h⟩ := h1 rfl
    dsimp only at e4 e5 e6
    exact ⟨x, by simp only [dcGo, val, e1, e2, e3, e4, e5, e6, bind, R.bind, pure, if_true], h⟩
theorem dc_n {α : Type} {mk : α → D} {c : Option Ev} {ek ev : Ev} {vs : List Nat} {Q : List (Ky × D) → Env → Prop} (xs : List α) (I : Nat → List (Ky × D) → Env → Prop) (h0 : I 0 [] ρ) (hs : ∀ k x acc ρ, xs[k]? = some x → I k acc ρ → Wg g (mk x) (wipeS ρ vs) fun ρ1 => Wc c ρ1 (fun ρ2 => We ek ρ2 fun y _ ρ3 => We ev ρ3 fun z _ ρ4 => Wp (keyOf y) fun q => I (k + 1) (dput acc q z) ρ4) (fun ρ2 => I (k + 1) acc ρ2)) (he : ∀ acc ρ, I xs.length acc ρ → Q acc ρ) : WD g c ek ev vs (xs.map mk) [] ρ Q := by
  have go : ∀ (ys : List α) (k : Nat) (acc : List (Ky × D)) (ρ : Env), (∀ i, ys[i]? = xs[k + i]?) → k + ys.length = xs.length → I k acc ρ → WD g c ek ev vs (ys.map mk) acc ρ Q := fun ys => by
    induction ys with
    | nil => intro k acc ρ hy hl h; exact dc_nil (he acc ρ (by rw [← hl]; exact h))
    | cons y ys ih =>
      intro k acc ρ hy hl h
      have nxt : ∀ acc ρ2, I (k + 1) acc ρ2 → WD g c ek ev vs (ys.map mk) acc ρ2 Q := fun acc ρ2 => ih (k + 1) acc ρ2 (fun i => by have := hy (i + 1); rw [show k + (i + 1) = k + 1 + i by omega] at this; rw [← this]; rfl) (by rw [List.length_cons] at hl; omega)
      exact dc_cons (Wp.mono (hs k y acc ρ (by have := hy 0; rw [Nat.add_zero] at this; rw [← this]; rfl) h) fun ρ1 h => Wp.mono h fun x h => ⟨fun z => We.mono (h.1 z) fun y _ ρ3 h => We.mono h fun z _ ρ4 h => Wp.mono h fun q h => nxt _ _ h, fun z => nxt _ _ (h.2 z)⟩)
  exact go xs 0 [] ρ (fun i => by rw [Nat.zero_add]) (by rw [Nat.zero_add]) h0
end
end DY

set_option Elab.async false
set_option linter.all false
set_option maxRecDepth 100000
set_option maxHeartbeats 4000000
namespace DY
/-! ### steps -/
theorem w_mul {own : D → D → R Rv} {i j : Int} {Q : D → Bool → Prop} (hm : mulOk i j = true) (h : Q (.int (i * j)) false) : Wr (mulD own (.int i) (.int j)) Q := ⟨_, by simp only [mulD, if_pos hm]; rfl, h⟩
theorem w_fdiv {i j : Int} {Q : D → Bool → Prop} (hm : divOk j = true) (h : Q (.int (i.fdiv j)) false) : Wr (fdivD (.int i) (.int j)) Q := ⟨_, by simp only [fdivD, if_pos hm]; rfl, h⟩
theorem w_mod {i j : Int} {Q : D → Bool → Prop} (hm : j ≠ 0) (h : Q (.int (i.fmod j)) false) : Wr (modD (.int i) (.int j)) Q := ⟨_, by simp only [modD, if_neg hm]; rfl, h⟩
theorem w_p {α : Type} {m : R α} {a : α} {P : α → Prop} (e : m = .ok a) (h : P a) : Wp m P := ⟨a, e, h⟩
theorem mulOk_s {i j : Int} (hi : i.natAbs < 2 ^ 400000) (hj : j.natAbs < 2 ^ 400000) : mulOk i j = true := by
  have key : ∀ n : Nat, n < 2 ^ 400000 → n.log2 < 400000 := fun n h => by
    by_cases z : n = 0
    · subst z; decide
    · exact (Nat.log2_lt z).mpr h
  unfold mulOk
  rw [decide_eq_true_eq]
  have := key _ hi
  have := key _ hj
  omega
theorem mulOk_b {i j : Int} (h1 : -2 ^ 200 ≤ i) (h2 : i ≤ 2 ^ 200) (h3 : -2 ^ 200 ≤ j) (h4 : j ≤ 2 ^ 200) : mulOk i j = true := by
  have e : (2 : Nat) ^ 201 ≤ 2 ^ 400000 := Nat.pow_le_pow_right (by decide) (by decide)
  exact mulOk_s (Nat.lt_of_lt_of_le (by omega) e) (Nat.lt_of_lt_of_le (by omega) e)
theorem mulOk_Bd {i j : Int} {a b : Nat} (h1 : SL.Bd a i) (h2 : SL.Bd b j) (ha : a ≤ 400000) (hb : b ≤ 400000) : mulOk i j = true := mulOk_s (h1.mono ha) (h2.mono hb)
theorem divOk_b {j : Int} (h1 : 0 < j) (h2 : j ≤ 2 ^ 200) : divOk j = true := by
  unfold divOk
  rw [Bool.and_eq_true, decide_eq_true_eq, decide_eq_true_eq]
  refine ⟨by omega, ?_⟩
  have : j.natAbs.log2 < 201 := (Nat.log2_lt (by omega)).mpr (by omega)
  omega
theorem fm_lo (i : Int) {j : Int} (h : 0 < j) : 0 ≤ i.fmod j := Int.fmod_nonneg_of_pos i h
theorem fm_hi (i : Int) {j : Int} (h : 0 < j) : i.fmod j < j := Int.fmod_lt_of_pos i h
theorem at_ok {xs : List D} {i : Int} (h0 : 0 ≤ i) (h1 : i < xs.length) : ∃ d, xs[i.toNat]? = some d ∧ atI xs i = some d := by
  have hl : i.toNat < xs.length := by omega
  refine ⟨xs[i.toNat], List.getElem?_eq_getElem hl, ?_⟩
  unfold atI ixN
  rw [if_pos h0, if_pos h1]
  exact List.getElem?_eq_getElem hl
theorem w_ixl {xs : List D} {i : Int} {Q : D → Bool → Prop} (h0 : 0 ≤ i) (h1 : i < xs.length) (h : ∀ d, xs[i.toNat]? = some d → Q d false) : Wr (ixD (.lst xs) (.int i)) Q := by
  obtain ⟨d, e1, e2⟩ := at_ok h0 h1
  exact ⟨(d, false), by show opt (atI xs i) = _; rw [e2]; rfl, h d e1⟩
theorem w_ixf {xs : List D} {i : Int} {Q : D → Bool → Prop} (h0 : 0 ≤ i) (h1 : i < xs.length) (h : ∀ d, xs[i.toNat]? = some d → Q d false) : Wr (ixD (.fls xs) (.int i)) Q := by
  obtain ⟨d, e1, e2⟩ := at_ok h0 h1
  exact ⟨(d, false), by show opt (atI xs i) = _; rw [e2]; rfl, h d e1⟩
theorem w_ixt {xs : List D} {i : Int} {Q : D → Bool → Prop} (h0 : 0 ≤ i) (h1 : i < xs.length) (h : ∀ d, xs[i.toNat]? = some d → Q d false) : Wr (ixD (.tup xs) (.int i)) Q := by
  obtain ⟨d, e1, e2⟩ := at_ok h0 h1
  exact ⟨(d, false), by show opt (atI xs i) = _; rw [e2]; rfl, h d e1⟩
theorem w_ixs {xs : List Nat} {i : Int} {Q : D → Bool → Prop} (hz : xs.length ≤ 100000) (h0 : 0 ≤ i) (h1 : i < xs.length) (h : ∀ c, xs[i.toNat]? = some c → Q (.str [c]) false) : Wr (ixD (.str xs) (.int i)) Q := by
  have hl : i.toNat < xs.length := by omega
  have e : xs[i.toNat]? = some xs[i.toNat] := List.getElem?_eq_getElem hl
  refine ⟨(.str [xs[i.toNat]], false), ?_, h _ e⟩
  show (if xs.length ≤ 100000 then opt ((atI xs i).map fun c => .str [c]) else .no) = _
  rw [if_pos hz]
  unfold atI ixN
  rw [if_pos h0, if_pos h1]
  show opt ((xs[i.toNat]?).map fun c => .str [c]) = _
  rw [e]; rfl
theorem cut_map {α β : Type} (f : α → β) (xs : List α) (lo hi : Option Int) : cut (xs.map f) lo hi = (cut xs lo hi).map f := by
  unfold cut
  rw [List.length_map, List.map_take, List.map_drop]
theorem w_addO {own : D → D → R Rv} {x y : D} {Q : D → Bool → Prop} (e : addD own x y = own x y) (h : Wr (own x y) Q) : Wr (addD own x y) Q := by rw [e]; exact h
theorem w_subO {own : D → D → R Rv} {x y : D} {Q : D → Bool → Prop} (e : subD own x y = own x y) (h : Wr (own x y) Q) : Wr (subD own x y) Q := by rw [e]; exact h
theorem w_mulO {own : D → D → R Rv} {x y : D} {Q : D → Bool → Prop} (e : mulD own x y = own x y) (h : Wr (own x y) Q) : Wr (mulD own x y) Q := by rw [e]; exact h
theorem w_negO {own : D → R Rv} {x : D} {Q : D → Bool → Prop} (e : negD own x = own x) (h : Wr (own x) Q) : Wr (negD own x) Q := by rw [e]; exact h
theorem w_eqO {own : D → D → R Rv} {x y : D} {Q : D → Bool → Prop} (e : eqD own x y = own x y) (h : Wr (own x y) Q) : Wr (eqD own x y) Q := by rw [e]; exact h
theorem w_neO {own : D → D → R Rv} {x y : D} {Q : D → Bool → Prop} (e : ∀ own, neD own x y = (do let r ← own x y; let b ← isB r.1; bl_ (!b))) (h : Wr (own x y) fun d _ => BlK d fun b => Q (.bl (!b)) false) : Wr (neD own x y) Q := by
  obtain ⟨⟨d, k⟩, e1, b, e2, h⟩ := h
  dsimp only at e2
  subst e2
  exact ⟨(.bl (!b), false), by rw [e]; simp only [e1, bind, R.bind, isB, bl_], h⟩
end DY

set_option Elab.async false
set_option linter.all false
set_option maxRecDepth 100000
set_option maxHeartbeats 4000000
namespace DY
/-! ### a mirror is run by rewriting: only what stands at the head -/
/-- a mark that keeps the rewriting out of a -/
inductive Tr {α : Type} (a : α) : Type where
  | mk
section
variable {α β γ : Type} {m m' : R α} {f : α → R β} {g : β → R γ} {a : α} {P : α → Prop} {d d' : D} {A B : R α}
def bnd (m : R α) (f : α → R β) (_ : Tr f := .mk) : R β := R.bind m f
def Wn (m : R α) (P : α → Prop) (_ : Tr P := .mk) : Prop := ∃ a, m = .ok a ∧ P a
theorem bnd_ok : bnd (.ok a) f = f a := rfl
theorem bnd_ex : bnd (.ex d) f = .ex d := rfl
theorem bnd_bnd : bnd (bnd m f) g = bnd m (fun x => bnd (f x) g) := by cases m <;> rfl
theorem bnd_eq : (m >>= f) = bnd m f := rfl
theorem bnd_fun {f' : α → R β} (h : ∀ x, f x = f' x) : bnd m f = bnd m f' := by rw [funext h]
theorem Wn.go (h : P a) : Wn (.ok a) P := ⟨a, rfl, h⟩
theorem Wn_ok : Wn (.ok a) P = P a := propext ⟨fun ⟨b, e, h⟩ => by cases e; exact h, fun h => ⟨a, rfl, h⟩⟩
theorem Wn.eq (h : Wn m (· = a)) : m = .ok a := by obtain ⟨b, e, rfl⟩ := h; exact e
theorem Wn.of (e : m = .ok a) (h : P a) : Wn m P := ⟨a, e, h⟩
theorem Wn.mono {Q : α → Prop} (h : Wn m P) (k : ∀ a, P a → Q a) : Wn m Q := by
  obtain ⟨a, e, h⟩ := h
  exact ⟨a, e, k a h⟩
theorem wn_wp (h : Wp m P) : Wn m P := h
/-- a test -/
def cnd (d : D) (A B : R α) (_ : Tr A := .mk) (_ : Tr B := .mk) : R α := match d with
  | .bl true => A
  | .bl false => B
  | _ => .no
theorem cnd_t : cnd (.bl true) A B = A := rfl
theorem cnd_f : cnd (.bl false) A B = B := rfl
theorem cnd_n {b : Bool} : cnd (.bl (!b)) A B = cnd (.bl b) B A := by cases b <;> rfl
theorem cnd_p {p : Prop} [Decidable p] (h : p) : cnd (.bl (decide p)) A B = A := by rw [decide_eq_true h]; rfl
theorem cnd_q {p : Prop} [Decidable p] (h : ¬ p) : cnd (.bl (decide p)) A B = B := by rw [decide_eq_false h]; rfl
theorem isB_cnd {F : Bool → R α} : (isB d >>= F) = cnd d (F true) (F false) := by
  cases d with
  | bl b => cases b <;> rfl
  | _ => rfl
end
section
variable {α : Type} {P : α → Prop} {β : Type} {A B : R β} {k : β → R α}
theorem wp_d {p : Prop} [Decidable p] (h : p → Wn (bnd A k) P) (h' : ¬ p → Wn (bnd B k) P) : Wn (bnd (cnd (.bl (decide p)) A B) k) P := by
  by_cases q : p
  · rw [cnd_p q]; exact h q
  · rw [cnd_q q]; exact h' q
theorem wp_b {b : Bool} (h : b = true → Wn (bnd A k) P) (h' : b = false → Wn (bnd B k) P) : Wn (bnd (cnd (.bl b) A B) k) P := by
  cases b
  · exact h' rfl
  · exact h rfl
theorem wp_use {m : R β} {Q : β → Prop} (h : Wn m Q) (k' : ∀ x, Q x → Wn (k x) P) : Wn (bnd m k) P := by
  obtain ⟨a, rfl, h⟩ := h
  exact k' a h
end
/-! ### expressions -/
def varG : Option Slot → Nat → Env → R (Rv × Env)
  | some (.sh d), _, ρ => .ok ((d, false), ρ)
  | some (.ow d), i, ρ => .ok ((d, false), ρ.set i (.sh d))
  | _, _, _ => .no
def movG : Option Slot → Nat → Env → R (Rv × Env)
  | some (.sh d), _, ρ => .ok ((d, false), ρ)
  | some (.ow d), i, ρ => .ok ((d, true), ρ.set i .un)
  | _, _, _ => .no
def lookG : Option Slot → R D
  | some (.sh d) => .ok d
  | some (.ow d) => .ok d
  | _ => .no
def ownG : Option Slot → R D
  | some (.ow d) => .ok d
  | _ => .no
section
variable {o o' : Option Slot} {i : Nat} {ρ : Env} {d : D}
theorem varG_sh : varG (some (.sh d)) i ρ = .ok ((d, false), ρ) := rfl
theorem varG_ow : varG (some (.ow d)) i ρ = .ok ((d, false), ρ.set i (.sh d)) := rfl
theorem movG_sh : movG (some (.sh d)) i ρ = .ok ((d, false), ρ) := rfl
theorem movG_ow : movG (some (.ow d)) i ρ = .ok ((d, true), ρ.set i .un) := rfl
theorem lookG_sh : lookG (some (.sh d)) = .ok d := rfl
theorem lookG_ow : lookG (some (.ow d)) = .ok d := rfl
theorem ownG_ow : ownG (some (.ow d)) = .ok d := rfl
theorem get_0 {s : Slot} : (s :: ρ)[0]? = some s := rfl
theorem get_s {s : Slot} : (s :: ρ)[i + 1]? = ρ[i]? := List.getElem?_cons_succ
theorem set_0 {s t : Slot} : (s :: ρ).set 0 t = t :: ρ := rfl
theorem set_s {s t : Slot} : (s :: ρ).set (i + 1) t = s :: ρ.set i t := rfl
theorem ev_var : eVar i ρ = varG ρ[i]? i ρ := by unfold eVar; split <;> simp_all [varG]
theorem ev_mov0 : eMove i ρ = movG ρ[i]? i ρ := by unfold eMove; split <;> simp_all [movG]
theorem ev_look : look ρ i = lookG ρ[i]? := rfl
theorem ev_c : eC d ρ = .ok ((d, false), ρ) := rfl
theorem ev_c0 : eC0 d ρ = .ok ((d, true), ρ) := rfl
end
section
variable {ρ : Env} {a b c t e k z : Ev} {i j n : Nat} {d : D} {f g : D → D → R Rv} {f1 : D → R Rv} {ms ks pre post : List Ev} {F : Fn} {G : FnR} {fn : List D → R Rv} {q : List D → List D → List D}
theorem val_bnd {β : Type} {F : D × Env → R β} : (val a ρ >>= F) = bnd (a ρ) fun r => F (r.1.1, r.2) := by unfold val; cases a ρ <;> rfl
theorem isB_bnd {β : Type} {F : Bool → R β} : (isB d >>= F) = cnd d (F true) (F false) := isB_cnd
theorem ev_bin : eBin f a b ρ = bnd (a ρ) fun r => bnd (b r.2) fun s => bnd (f r.1.1 s.1.1) fun t => .ok (t, s.2) := by unfold eBin; simp only [val_bnd]; rfl
theorem ev_un : eUn f1 a ρ = bnd (a ρ) fun r => bnd (f1 r.1.1) fun t => .ok (t, r.2) := by unfold eUn; simp only [val_bnd]; rfl
theorem ev_bor : eBor f i b ρ = bnd (look ρ i) fun _ => bnd (b ρ) fun s => bnd (look s.2 i) fun x => bnd (f x s.1.1) fun t => .ok (t, s.2) := by unfold eBor; simp only [val_bnd]; rfl
theorem ev_borR : eBorR f a i ρ = bnd (a ρ) fun r => bnd (look r.2 i) fun y => bnd (f r.1.1 y) fun t => .ok (t, r.2) := by unfold eBorR; simp only [val_bnd]; rfl
theorem ev_bor1 : eBor1 f1 i ρ = bnd (look ρ i) fun x => bnd (f1 x) fun t => .ok (t, ρ) := rfl
theorem ev_nil : evs [] ρ = .ok ([], ρ) := rfl
theorem ev_cons : evs (e :: ms) ρ = bnd (e ρ) fun r => bnd (evs ms r.2) fun s => .ok (r.1.1 :: s.1, s.2) := by rw [evs]; simp only [val_bnd]; rfl
theorem ev_n : eN fn ms ρ = bnd (evs ms ρ) fun r => bnd (fn r.1) fun t => .ok (t, r.2) := rfl
theorem ev_if : eIf t a b ρ = bnd (t ρ) fun r => cnd r.1.1 (a r.2) (b r.2) := by unfold eIf; simp only [val_bnd, isB_bnd]; rfl
theorem ev_and : eAnd a b ρ = bnd (a ρ) fun r => cnd r.1.1 (b r.2) (.ok ((.bl false, false), r.2)) := by unfold eAnd; simp only [val_bnd, isB_bnd]; rfl
theorem ev_or : eOr a b ρ = bnd (a ρ) fun r => cnd r.1.1 (.ok ((.bl true, false), r.2)) (b r.2) := by unfold eOr; simp only [val_bnd, isB_bnd]; rfl
def notR : D → R Rv
  | .bl b => .ok (.bl (!b), false)
  | _ => .no
theorem notR_bl {x : Bool} : notR (.bl x) = .ok (.bl (!x), false) := rfl
theorem ev_not : eNot a ρ = bnd (a ρ) fun r => bnd (notR r.1.1) fun t => .ok (t, r.2) := by
  unfold eNot; simp only [val_bnd]; refine bnd_fun fun r => ?_; obtain ⟨⟨d, k⟩, ρ⟩ := r; cases d <;> rfl
theorem ev_chain : eChain f g a b c ρ = bnd (a ρ) fun r => bnd (b r.2) fun s => bnd (f r.1.1 s.1.1) fun t => cnd t.1 (bnd (c s.2) fun u => bnd (g s.1.1 u.1.1) fun v => .ok (v, u.2)) (.ok ((.bl false, false), s.2)) := by
  unfold eChain; simp only [val_bnd, isB_bnd]; rfl
theorem ev_callR : eCallR G pre i post ρ = bnd (look ρ i) fun _ => bnd (evs pre ρ) fun r => bnd (evs post r.2) fun s => bnd (ownG s.2[i]?) fun d => bnd (G (r.1 ++ s.1) d) fun u => .ok (u.1, s.2.set i (.ow u.2)) := by
  show bnd (look ρ i) (fun _ => bnd (evs pre ρ) fun r => bnd (evs post r.2) fun s => _) = _
  refine bnd_fun fun _ => ?_; refine bnd_fun fun r => ?_; refine bnd_fun fun s => ?_
  dsimp only
  split
  · rename_i q; rw [q]; rfl
  · rename_i q
    cases q2 : s.2[i]? with
    | none => rfl
    | some u => cases u with
      | ow d => exact absurd q2 (q d)
      | _ => rfl
theorem ev_callT : eCallT G pre e ρ = bnd (evs pre ρ) fun r => bnd (e r.2) fun s => cnd (.bl s.1.2) (bnd (G r.1 s.1.1) fun u => .ok (u.1, s.2)) .no := by
  show bnd (evs pre ρ) (fun r => bnd (e r.2) fun s => _) = _
  refine bnd_fun fun r => ?_; refine bnd_fun fun s => ?_
  obtain ⟨⟨d, k⟩, ρ'⟩ := s
  cases k <;> rfl
theorem isIns_ok_ {fs : List D} : isIns n (.ins n fs) = .ok () := by simp only [isIns, if_true]
theorem ev_meth : eMeth n F a ms ρ = bnd (a ρ) fun r => bnd (isIns n r.1.1) fun _ => bnd (evs ms r.2) fun s => bnd (F (r.1.1 :: s.1)) fun t => .ok (t, s.2) := by unfold eMeth; simp only [val_bnd]; rfl
theorem ev_methK : eMethK n F q a ms ks ρ = bnd (a ρ) fun r => bnd (isIns n r.1.1) fun _ => bnd (evs ms r.2) fun s => bnd (evs ks s.2) fun u => bnd (F (q (r.1.1 :: s.1) u.1)) fun t => .ok (t, u.2) := by unfold eMethK; simp only [val_bnd]; rfl
theorem ev_nk : eNK F q ms ks ρ = bnd (evs ms ρ) fun s => bnd (evs ks s.2) fun u => bnd (F (q s.1 u.1)) fun t => .ok (t, u.2) := rfl
theorem isL_ok {xs : List D} : isL (.lst xs) = .ok () := rfl
theorem ev_mut {fm : D → List D → R (D × D)} : eMut fm i ms ρ = bnd (look ρ i) fun d0 => bnd (isL d0) fun _ => bnd (evs ms ρ) fun r => bnd (ownG r.2[i]?) fun d => bnd (fm d r.1) fun u => .ok ((u.1, false), r.2.set i (.ow u.2)) := by
  show bnd (look ρ i) (fun d0 => bnd (isL d0) fun _ => bnd (evs ms ρ) fun r => _) = _
  refine bnd_fun fun d0 => ?_; refine bnd_fun fun _ => ?_; refine bnd_fun fun s => ?_
  dsimp only
  split
  · rename_i q; rw [q]; rfl
  · rename_i q
    cases q2 : s.2[i]? with
    | none => rfl
    | some u => cases u with
      | ow d => exact absurd q2 (q d)
      | _ => rfl
theorem ev_get {f3 : D → D → D → R Rv} : eGet f3 a k z ρ = bnd (a ρ) fun r => bnd (k r.2) fun s => bnd (z s.2) fun u => bnd (f3 r.1.1 s.1.1 u.1.1) fun t => .ok (t, u.2) := by unfold eGet; simp only [val_bnd]; rfl
theorem ev_getS {f3 : D → D → D → R Rv} : eGetS f3 i k z ρ = bnd (look ρ i) fun d0 => bnd (k ρ) fun s => bnd (z s.2) fun u => bnd (look u.2 i) fun d => bnd (f3 d0 s.1.1 u.1.1) fun _ => bnd (f3 d s.1.1 u.1.1) fun t => .ok (t, u.2) := by unfold eGetS; simp only [val_bnd]; rfl
def intR : D → R Int
  | .int i => .ok i
  | _ => .no
theorem intR_i {i : Int} : intR (.int i) = .ok i := rfl
theorem ev_part0 : part none ρ = .ok (none, ρ) := rfl
theorem ev_part1 : part (some e) ρ = bnd (e ρ) fun r => bnd (intR r.1.1) fun i => .ok (some i, r.2) := by
  unfold part; simp only [val_bnd]; refine bnd_fun fun r => ?_; obtain ⟨⟨d, k⟩, ρ⟩ := r; cases d <;> rfl
theorem ev_slice {lo hi : Option Ev} : eSlice a lo hi ρ = bnd (a ρ) fun r => bnd (part lo r.2) fun l => bnd (part hi l.2) fun h => bnd (sliceD l.1 h.1 r.1.1) fun t => .ok (t, h.2) := by unfold eSlice; simp only [val_bnd]; rfl
end
/-! ### statements -/
section
variable {ρ : Env} {a b : Sv} {t e v : Ev} {i j n p c : Nat} {d : D} {w : Bool} {g : Tg} {it : Iv} {ds : List D}
def seqk (b : Sv) : Out → Env → R (Out × Env)
  | .nx, ρ => b ρ
  | o, ρ => .ok (o, ρ)
theorem seqk_nx : seqk b .nx ρ = b ρ := rfl
theorem seqk_rt {r : Rv} : seqk b (.rt r) ρ = .ok (.rt r, ρ) := rfl
theorem seqk_bk : seqk b .bk ρ = .ok (.bk, ρ) := rfl
theorem seqk_ct : seqk b .ct ρ = .ok (.ct, ρ) := rfl
theorem ev_seq : sSeq a b ρ = bnd (a ρ) fun r => seqk b r.1 r.2 := by
  show bnd (a ρ) _ = _
  refine bnd_fun fun r => ?_; obtain ⟨o, ρ⟩ := r; cases o <;> rfl
theorem ev_next : sNext ρ = .ok (.nx, ρ) := rfl
theorem ev_break : sBreak ρ = .ok (.bk, ρ) := rfl
theorem ev_cont : sCont ρ = .ok (.ct, ρ) := rfl
theorem keep_tt : keep true (d, true) = .ow d := rfl
theorem keep_tf : keep true (d, false) = .sh d := rfl
theorem keep_fx {w : Bool} : keep false (d, w) = .sh d := by cases w <;> rfl
theorem ev_asg : sAsg w i e ρ = bnd (e ρ) fun r => .ok (.nx, r.2.set i (keep w r.1)) := rfl
theorem ev_par {a b : Ev} : sPar w i j a b ρ = bnd (a ρ) fun r => bnd (b r.2) fun s => .ok (.nx, (s.2.set i (keep w r.1)).set j (keep w s.1)) := rfl
theorem ev_gN : gN i d ρ = .ok (ρ.set i (.sh d)) := rfl
theorem ev_gTt {gs : List Tg} : gT gs (.tup ds) ρ = gGo gs ds ρ := rfl
theorem ev_gTk {gs : List Tg} : gT gs (.kt ds) ρ = gGo gs ds ρ := rfl
theorem ev_g0 : gGo [] [] ρ = .ok ρ := rfl
theorem ev_g1 {gs : List Tg} : gGo (g :: gs) (d :: ds) ρ = bnd (g d ρ) fun ρ1 => gGo gs ds ρ1 := rfl
theorem ev_asgT : sAsgT g e ρ = bnd (e ρ) fun r => bnd (g r.1.1 r.2) fun ρ2 => .ok (.nx, ρ2) := by unfold sAsgT; simp only [val_bnd]; rfl
theorem ev_expr : sExpr e ρ = bnd (e ρ) fun r => .ok (.nx, r.2) := by unfold sExpr; simp only [val_bnd]; rfl
theorem ev_ret : sRet e ρ = bnd (e ρ) fun r => .ok (.rt r.1, r.2) := rfl
theorem ev_retV : sRetV i ρ = bnd (eMove i ρ) fun r => .ok (.rt r.1, r.2) := rfl
theorem ev_retN : sRetN ρ = .ok (.rt (.non, false), ρ) := rfl
theorem ev_sif : sIf t a b ρ = bnd (t ρ) fun r => cnd r.1.1 (a r.2) (b r.2) := by unfold sIf; simp only [val_bnd, isB_bnd]; rfl
theorem ev_for : sFor it g a ρ = bnd (it ρ) fun r => forGo g a r.1 r.2 := rfl
theorem ev_while : sWhile t a ρ = whileGo t a fuel ρ := rfl
theorem ev_put {f3 : D → D → D → R D} : sPut f3 i e v ρ = bnd (v ρ) fun y => bnd (look y.2 i) fun _ => bnd (e y.2) fun x => bnd (ownG x.2[i]?) fun d => bnd (f3 d x.1.1 y.1.1) fun d' => .ok (.nx, x.2.set i (.ow d')) := by
  unfold sPut; simp only [val_bnd]
  refine bnd_fun fun y => ?_
  show bnd (look _ i) _ = _
  refine bnd_fun fun _ => ?_; refine bnd_fun fun x => ?_
  split
  · rename_i q; rw [q]; rfl
  · rename_i q
    cases q2 : x.2[i]? with
    | none => rfl
    | some u => cases u with
      | ow d => exact absurd q2 (q d)
      | _ => rfl
def fldG (c k : Nat) (y : D) : Option Slot → R D
  | some (.ow (.ins c' fs)) => if c' = c ∧ k = fs.length then .ok (.ins c' (fs ++ [y])) else .no
  | _ => .no
theorem ev_fld {k : Nat} : sFld c k e ρ = bnd (e ρ) fun y => bnd (fldG c k y.1.1 y.2[0]?) fun d => .ok (.nx, y.2.set 0 (.ow d)) := by
  unfold sFld; simp only [val_bnd]
  refine bnd_fun fun y => ?_
  split
  · rename_i q
    rw [q]
    show _ = bnd (if _ ∧ _ then _ else _) _
    split <;> rfl
  · rename_i q
    cases q2 : y.2[0]? with
    | none => rfl
    | some u => cases u with
      | ow d => cases d with
        | ins c fs => exact absurd q2 (q c fs)
        | _ => rfl
      | _ => rfl
theorem fldG_0 {y : D} : fldG c 0 y (some (.ow (.ins c []))) = .ok (.ins c [y]) := by simp [fldG]
theorem fldG_1 {x y : D} : fldG c 1 y (some (.ow (.ins c [x]))) = .ok (.ins c [x, y]) := by simp [fldG]
theorem fldG_2 {x1 x2 y : D} : fldG c 2 y (some (.ow (.ins c [x1, x2]))) = .ok (.ins c [x1, x2, y]) := by simp [fldG]
theorem fldG_3 {x1 x2 x3 y : D} : fldG c 3 y (some (.ow (.ins c [x1, x2, x3]))) = .ok (.ins c [x1, x2, x3, y]) := by simp [fldG]
theorem fldG_4 {x1 x2 x3 x4 y : D} : fldG c 4 y (some (.ow (.ins c [x1, x2, x3, x4]))) = .ok (.ins c [x1, x2, x3, x4, y]) := by simp [fldG]
theorem fldG_5 {x1 x2 x3 x4 x5 y : D} : fldG c 5 y (some (.ow (.ins c [x1, x2, x3, x4, x5]))) = .ok (.ins c [x1, x2, x3, x4, x5, y]) := by simp [fldG]
theorem fldG_6 {x1 x2 x3 x4 x5 x6 y : D} : fldG c 6 y (some (.ow (.ins c [x1, x2, x3, x4, x5, x6]))) = .ok (.ins c [x1, x2, x3, x4, x5, x6, y]) := by simp [fldG]
/-! defs -/
theorem end_nx : endOf .nx = .ok (.non, false) := rfl
theorem end_rt {r : Rv} : endOf (.rt r) = .ok r := rfl
theorem fn_eq (hp : ds.length = p) : mkFn n p a ds = bnd (a (slots n ds)) fun r => endOf r.1 := by unfold mkFn; rw [if_pos hp]; rfl
theorem fnR_eq (hp : ds.length + 1 = p) (hj : j < p) : mkFnR n p j a ds d = bnd (a ((slots n (ds.take j ++ d :: ds.drop j)).set j (.ow d))) fun r => bnd (endOf r.1) fun t => bnd (ownG r.2[j]?) fun d' => .ok (t, d') := by
  unfold mkFnR; rw [if_pos ⟨hp, hj⟩]
  show bnd (a _) _ = _
  refine bnd_fun fun r => ?_; obtain ⟨o, ρ⟩ := r
  show bnd (endOf o) _ = _
  refine bnd_fun fun t => ?_
  dsimp only
  split
  · rename_i q; rw [q]; rfl
  · rename_i q
    cases q2 : ρ[j]? with
    | none => rfl
    | some u => cases u with
      | ow d => exact absurd q2 (q d)
      | _ => rfl
def objE : Rv × D → R Rv
  | ((.non, false), d) => .ok (d, false)
  | _ => .no
theorem objE_go : objE ((.non, false), d) = .ok (d, false) := rfl
theorem obj_eq {G : FnR} : mkObj c G ds = bnd (G ds (.ins c [])) objE := by
  show bnd (G ds (.ins c [])) _ = _
  refine bnd_fun fun r => ?_; obtain ⟨⟨x, k⟩, d⟩ := r
  cases x <;> cases k <;> rfl
/-! what is walked -/
theorem ev_iv : iVal e ρ = bnd (e ρ) fun r => bnd (items r.1.1) fun ds => .ok (ds, r.2) := by unfold iVal; simp only [val_bnd]; rfl
theorem items_lst : items (.lst ds) = .ok ds := rfl
theorem items_fls : items (.fls ds) = .ok ds := rfl
theorem items_tup : items (.tup ds) = .ok ds := rfl
theorem items_str {s : List Nat} : items (.str s) = .ok (s.map fun c => .str [c]) := rfl
def rngG : List D → Env → R (List D × Env)
  | [.int j], ρ1 => if -(2 ^ 62) ≤ j ∧ j < 2 ^ 62 then .ok (rng 0 j.toNat, ρ1) else .no
  | [.int i, .int j], ρ1 => if (-(2 ^ 62) ≤ i ∧ i < 2 ^ 62) ∧ -(2 ^ 62) ≤ j ∧ j < 2 ^ 62 then .ok (rng i (j - i).toNat, ρ1) else .no
  | _, _ => .no
theorem ev_range {as : List Ev} : iRange as ρ = bnd (evs as ρ) fun r => rngG r.1 r.2 := by
  show bnd (evs as ρ) _ = _
  refine bnd_fun fun r => ?_; obtain ⟨xs, ρ1⟩ := r
  match xs with
  | [] => rfl
  | [x] => cases x <;> rfl
  | [x, y] => cases x <;> cases y <;> rfl
  | x :: y :: z :: l => cases x <;> cases y <;> rfl
theorem rngG_1 {j : Int} (h1 : -(2 ^ 62) ≤ j) (h2 : j < 2 ^ 62) : rngG [.int j] ρ = .ok (rng 0 j.toNat, ρ) := by simp only [rngG, if_pos (And.intro h1 h2)]
theorem rngG_2 {i j : Int} (h1 : -(2 ^ 62) ≤ i) (h2 : i < 2 ^ 62) (h3 : -(2 ^ 62) ≤ j) (h4 : j < 2 ^ 62) : rngG [.int i, .int j] ρ = .ok (rng i (j - i).toNat, ρ) := by simp only [rngG, if_pos (And.intro (And.intro h1 h2) (And.intro h3 h4))]
def keyG : Option Slot → Nat → Env → R (List D × Env)
  | some (.sh (.dic kvs)), _, ρ => .ok (kvs.map fun kv => kyD kv.1, ρ)
  | some (.ow (.dic kvs)), i, ρ => .ok (kvs.map fun kv => kyD kv.1, ρ.set i (.sh (.dic kvs)))
  | _, _, _ => .no
theorem keyG_sh {kvs : List (Ky × D)} : keyG (some (.sh (.dic kvs))) i ρ = .ok (kvs.map fun kv => kyD kv.1, ρ) := rfl
theorem keyG_ow {kvs : List (Ky × D)} : keyG (some (.ow (.dic kvs))) i ρ = .ok (kvs.map fun kv => kyD kv.1, ρ.set i (.sh (.dic kvs))) := rfl
theorem ev_keys : iKeys i ρ = keyG ρ[i]? i ρ := by
  unfold iKeys
  split <;> simp_all [keyG]
/-! loops -/
theorem for_0 : forGo g a [] ρ = .ok (.nx, ρ) := rfl
def forE (f : Env → R (Out × Env)) : Out → Env → R (Out × Env)
  | .nx, ρ => f ρ
  | .ct, ρ => f ρ
  | .bk, ρ => .ok (.nx, ρ)
  | .rt r, ρ => .ok (.rt r, ρ)
theorem forE_nx {f : Env → R (Out × Env)} : forE f .nx ρ = f ρ := rfl
theorem forE_ct {f : Env → R (Out × Env)} : forE f .ct ρ = f ρ := rfl
theorem forE_bk {f : Env → R (Out × Env)} : forE f .bk ρ = .ok (.nx, ρ) := rfl
theorem forE_rt {f : Env → R (Out × Env)} {r : Rv} : forE f (.rt r) ρ = .ok (.rt r, ρ) := rfl
theorem for_s : forGo g a (d :: ds) ρ = bnd (g d ρ) fun ρ1 => bnd (a ρ1) fun r => forE (forGo g a ds) r.1 r.2 := by
  show bnd (g d ρ) (fun ρ1 => bnd (a ρ1) _) = _
  refine bnd_fun fun ρ1 => ?_; refine bnd_fun fun r => ?_; obtain ⟨o, ρ2⟩ := r; cases o <;> rfl
/-- behind a round of a loop with the invariant I; P: what is wanted of the way out -/
def LoopK (I : Env → Prop) (X : Out × Env → Prop) (x : Out × Env) : Prop := match x.1 with
  | .nx => I x.2
  | .ct => I x.2
  | .bk => X (.nx, x.2)
  | .rt r => X (.rt r, x.2)
theorem LK_nx {I : Env → Prop} {X : Out × Env → Prop} : LoopK I X (.nx, ρ) = I ρ := rfl
theorem LK_ct {I : Env → Prop} {X : Out × Env → Prop} : LoopK I X (.ct, ρ) = I ρ := rfl
theorem LK_bk {I : Env → Prop} {X : Out × Env → Prop} : LoopK I X (.bk, ρ) = X (.nx, ρ) := rfl
theorem LK_rt {I : Env → Prop} {X : Out × Env → Prop} {r : Rv} : LoopK I X (.rt r, ρ) = X (.rt r, ρ) := rfl
theorem wp_for {α : Type} {mk : α → D} {xs : List α} {γ : Type} {k : Out × Env → R γ} {P : γ → Prop} (I : Nat → Env → Prop) (h0 : I 0 ρ) (hs : ∀ n x ρ, xs[n]? = some x → I n ρ → Wn (bnd (g (mk x) ρ) a) (LoopK (I (n + 1)) fun y => Wn (k y) P)) (he : ∀ ρ, I xs.length ρ → Wn (k (.nx, ρ)) P) : Wn (bnd (forGo g a (xs.map mk) ρ) k) P := by
  have go : ∀ (ys : List α) (n : Nat) (ρ : Env), (∀ i, ys[i]? = xs[n + i]?) → n + ys.length = xs.length → I n ρ → Wn (bnd (forGo g a (ys.map mk) ρ) k) P := fun ys => by
    induction ys with
    | nil => intro n ρ hy hl h; exact he ρ (by rw [← hl]; exact h)
    | cons y ys ih =>
      intro n ρ hy hl h
      have st := hs n y ρ (by have := hy 0; rw [Nat.add_zero] at this; rw [← this]; rfl) h
      have nxt : ∀ ρ2, I (n + 1) ρ2 → Wn (bnd (forGo g a (ys.map mk) ρ2) k) P := fun ρ2 => ih (n + 1) ρ2 (fun i => by have := hy (i + 1); rw [show n + (i + 1) = n + 1 + i by omega] at this; rw [← this]; rfl) (by rw [List.length_cons] at hl; omega)
      rw [List.map_cons, for_s, bnd_bnd]
      have : (fun x => bnd (bnd (a x) fun r => forE (forGo g a (ys.map mk)) r.1 r.2) k) = fun x => bnd (a x) fun r => bnd (forE (forGo g a (ys.map mk)) r.1 r.2) k := by funext x; rw [bnd_bnd]
      rw [this, ← bnd_bnd]
      refine wp_use st fun x hx => ?_
      obtain ⟨o, ρ2⟩ := x
      cases o with
      | nx => exact nxt _ hx
      | ct => exact nxt _ hx
      | bk => exact hx
      | rt r => exact hx
  exact go xs 0 ρ (fun i => by rw [Nat.zero_add]) (by rw [Nat.zero_add]) h0
/-- the same over data -/
theorem wp_forD {γ : Type} {k : Out × Env → R γ} {P : γ → Prop} (I : Nat → Env → Prop) (h0 : I 0 ρ) (hs : ∀ n x ρ, ds[n]? = some x → I n ρ → Wn (bnd (g x ρ) a) (LoopK (I (n + 1)) fun y => Wn (k y) P)) (he : ∀ ρ, I ds.length ρ → Wn (k (.nx, ρ)) P) : Wn (bnd (forGo g a ds ρ) k) P := by
  have := wp_for (mk := id) (xs := ds) (ρ := ρ) (g := g) (a := a) (k := k) (P := P) I h0 hs he
  rwa [List.map_id] at this
theorem wp_while {γ : Type} {k : Out × Env → R γ} {P : γ → Prop} (M : Env → Nat) (I : Env → Prop) (h0 : I ρ) (hM : ∀ ρ, I ρ → M ρ < fuel) (hs : ∀ ρ, I ρ → Wn (bnd (t ρ) fun r => cnd r.1.1 (a r.2) (.ok (.bk, r.2))) (LoopK (fun ρ2 => I ρ2 ∧ M ρ2 < M ρ) fun y => Wn (k y) P)) : Wn (bnd (whileGo t a fuel ρ) k) P := by
  have step : ∀ n ρ, whileGo t a (n + 1) ρ = bnd (bnd (t ρ) fun r => cnd r.1.1 (a r.2) (.ok (.bk, r.2))) fun r => forE (whileGo t a n) r.1 r.2 := fun n ρ => by
    rw [bnd_bnd]
    show (do
      let (x, ρ1) ← val t ρ
      let c ← isB x
      if c then do
        let (o, ρ2) ← a ρ1
        match o with
        | .nx => whileGo t a n ρ2
        | .ct => whileGo t a n ρ2
        | .bk => .ok (.nx, ρ2)
        | .rt r => .ok (.rt r, ρ2)
      else .ok (.nx, ρ1)) = _
    simp only [val_bnd, isB_bnd]
    refine bnd_fun fun r => ?_; obtain ⟨⟨d, b⟩, ρ1⟩ := r
    cases d with
    | bl c => cases c with
      | false => rfl
      | true =>
        show bnd (a ρ1) _ = bnd (a ρ1) _
        refine bnd_fun fun r => ?_; obtain ⟨o, ρ2⟩ := r; cases o <;> rfl
    | _ => rfl
  have go : ∀ (n : Nat) (ρ : Env), I ρ → M ρ < n → Wn (bnd (whileGo t a n ρ) k) P := fun n => by
    induction n with
    | zero => intro ρ _ h; omega
    | succ n ih =>
      intro ρ h hl
      rw [step, bnd_bnd]
      refine wp_use (hs ρ h) fun x hx => ?_
      obtain ⟨o, ρ2⟩ := x
      cases o with
      | nx => exact ih ρ2 hx.1 (by have := hx.2; dsimp only at this; omega)
      | ct => exact ih ρ2 hx.1 (by have := hx.2; dsimp only at this; omega)
      | bk => exact hx
      | rt r => exact hx
  exact go fuel ρ h0 (hM ρ h0)
/-! comprehensions -/
def cndO : Option Ev → Env → R (D × Env)
  | none, ρ => .ok (.bl true, ρ)
  | some t, ρ => bnd (t ρ) fun r => .ok (r.1.1, r.2)
theorem cndO_none : cndO none ρ = .ok (.bl true, ρ) := rfl
theorem cndO_some : cndO (some t) ρ = bnd (t ρ) fun r => .ok (r.1.1, r.2) := rfl
def lcS (g : Tg) (c : Option Ev) (e : Ev) (vs : List Nat) (ds : List D) (ρ1 : Env) : R (Rv × Env) := if noOw ρ1 vs && decide (ds.length ≤ 1000) then do
    let (acc, ρ2) ← lcGo g c e vs ds [] ρ1
    pure ((.lst acc, true), backS ρ1 ρ2 vs)
  else .no
theorem ev_lc {c : Option Ev} {vs : List Nat} : eLc it g c e vs ρ = bnd (it ρ) fun r => lcS g c e vs r.1 r.2 := rfl
theorem lcGo_s {c : Option Ev} {vs : List Nat} {acc : List D} : lcGo g c e vs (d :: ds) acc ρ = bnd (g d (wipeS ρ vs)) fun ρ1 => bnd (cndO c ρ1) fun s => cnd s.1 (bnd (e s.2) fun y => lcGo g c e vs ds (acc ++ [y.1.1]) y.2) (lcGo g c e vs ds acc s.2) := by
  show bnd (g d (wipeS ρ vs)) _ = _
  refine bnd_fun fun ρ1 => ?_
  cases c with
  | none => show bnd (val e ρ1) _ = bnd (e ρ1) _; exact val_bnd
  | some t =>
    show bnd (val t ρ1 >>= fun p => isB p.1 >>= fun b => .ok (b, p.2)) _ = _
    rw [val_bnd, bnd_bnd]
    show _ = bnd (bnd (t ρ1) _) _
    rw [bnd_bnd]
    refine bnd_fun fun r => ?_; obtain ⟨⟨x, k⟩, ρ2⟩ := r
    cases x with
    | bl c => cases c with
      | false => rfl
      | true => show bnd (val e ρ2) _ = bnd (e ρ2) _; exact val_bnd
    | _ => rfl
/-- with an invariant over what is made so far -/
theorem wp_lc {α : Type} {mk : α → D} {xs : List α} {c : Option Ev} {vs : List Nat} {γ : Type} {k : Rv × Env → R γ} {P : γ → Prop} (I : Nat → List D → Env → Prop) (hn : noOw ρ vs = true) (hl : xs.length ≤ 1000) (h0 : I 0 [] ρ) (hs : ∀ n x acc ρ, xs[n]? = some x → I n acc ρ → Wn (bnd (g (mk x) (wipeS ρ vs)) fun ρ1 => bnd (cndO c ρ1) fun s => cnd s.1 (bnd (e s.2) fun y => .ok (acc ++ [y.1.1], y.2)) (.ok (acc, s.2))) fun y => I (n + 1) y.1 y.2) (he : ∀ acc ρ', I xs.length acc ρ' → Wn (k ((.lst acc, true), backS ρ ρ' vs)) P) : Wn (bnd (lcS g c e vs (xs.map mk) ρ) k) P := by
  have go : ∀ (ys : List α) (n : Nat) (acc : List D) (ρ' : Env), (∀ i, ys[i]? = xs[n + i]?) → n + ys.length = xs.length → I n acc ρ' → Wn (bnd (lcGo g c e vs (ys.map mk) acc ρ') fun r => k ((.lst r.1, true), backS ρ r.2 vs)) P := fun ys => by
    induction ys with
    | nil => intro n acc ρ hy hl h; exact he acc ρ (by rw [← hl]; exact h)
    | cons y ys ih =>
      intro n acc ρ' hy hl h
      have st := hs n y acc ρ' (by have := hy 0; rw [Nat.add_zero] at this; rw [← this]; rfl) h
      have nxt := fun acc ρ2 => ih (n + 1) acc ρ2 (fun i => by have := hy (i + 1); rw [show n + (i + 1) = n + 1 + i by omega] at this; rw [← this]; rfl) (by rw [List.length_cons] at hl; omega)
      have e1 : lcGo g c e vs (mk y :: ys.map mk) acc ρ' = bnd (bnd (g (mk y) (wipeS ρ' vs)) fun ρ1 => bnd (cndO c ρ1) fun s => cnd s.1 (bnd (e s.2) fun y => .ok (acc ++ [y.1.1], y.2)) (.ok (acc, s.2))) fun r => lcGo g c e vs (ys.map mk) r.1 r.2 := by
        rw [lcGo_s, bnd_bnd]; refine bnd_fun fun ρ1 => ?_; rw [bnd_bnd]; refine bnd_fun fun s => ?_
        obtain ⟨s1, s2⟩ := s
        cases s1 with
        | bl b => cases b with
          | false => rfl
          | true => show bnd (e s2) _ = bnd (bnd (e s2) _) _; rw [bnd_bnd]; rfl
        | _ => rfl
      rw [List.map_cons, e1, bnd_bnd]
      exact wp_use st fun x hx => nxt _ _ hx
  have e0 : lcS g c e vs (xs.map mk) ρ = bnd (lcGo g c e vs (xs.map mk) [] ρ) fun r => .ok ((.lst r.1, true), backS ρ r.2 vs) := by
    unfold lcS
    rw [hn, List.length_map, decide_eq_true hl]; rfl
  rw [e0, bnd_bnd]
  exact go xs 0 [] ρ (fun i => by rw [Nat.zero_add]) (by rw [Nat.zero_add]) h0
/-- each element is a function of what is walked; the slots stay -/
theorem lc_eq {α : Type} {mk : α → D} {xs : List α} {c : Option Ev} {vs : List Nat} (f : α → Option D) (hn : noOw ρ vs = true) (hl : xs.length ≤ 1000)
    (hs : ∀ x ∈ xs, ∃ ρ', (bnd (g (mk x) (wipeS ρ vs)) fun ρ1 => bnd (cndO c ρ1) fun s => cnd s.1 (bnd (e s.2) fun y => .ok (some y.1.1, y.2)) (.ok (none, s.2))) = .ok (f x, ρ') ∧ wipeS ρ' vs = wipeS ρ vs ∧ backS ρ ρ' vs = ρ) (hb : backS ρ ρ vs = ρ := by rfl) : lcS g c e vs (xs.map mk) ρ = .ok ((.lst (xs.filterMap f), true), ρ) := by
  refine Wn.eq (m := lcS g c e vs (xs.map mk) ρ) ?_
  have : lcS g c e vs (xs.map mk) ρ = bnd (lcS g c e vs (xs.map mk) ρ) .ok := by cases lcS g c e vs (xs.map mk) ρ <;> rfl
  rw [this]
  refine wp_lc (fun n acc ρ' => acc = (xs.take n).filterMap f ∧ wipeS ρ' vs = wipeS ρ vs ∧ backS ρ ρ' vs = ρ) hn hl ⟨by simp, rfl, hb⟩ (fun n x acc ρ' hx h => ?_) fun acc ρ' h => ?_
  · obtain ⟨rfl, h1, h2⟩ := h
    have mem := List.mem_of_getElem? hx
    obtain ⟨ρ2, e2, h3, h4⟩ := hs x mem
    have tk : xs.take (n + 1) = xs.take n ++ [x] := by rw [List.take_add_one, hx]; rfl
    rw [h1]
    have key : (bnd (g (mk x) (wipeS ρ vs)) fun ρ1 => bnd (cndO c ρ1) fun s => cnd s.1 (bnd (e s.2) fun y => .ok ((xs.take n).filterMap f ++ [y.1.1], y.2)) (.ok ((xs.take n).filterMap f, s.2))) = bnd (bnd (g (mk x) (wipeS ρ vs)) fun ρ1 => bnd (cndO c ρ1) fun s => cnd s.1 (bnd (e s.2) fun y => .ok (some y.1.1, y.2)) (.ok (none, s.2))) fun r => .ok ((xs.take n).filterMap f ++ r.1.toList, r.2) := by
      rw [bnd_bnd]; refine bnd_fun fun ρ1 => ?_; rw [bnd_bnd]; refine bnd_fun fun s => ?_
      obtain ⟨s1, s2⟩ := s
      cases s1 with
      | bl b => cases b with
        | false => show R.ok _ = R.ok _; simp
        | true => show bnd (e s2) _ = bnd (bnd (e s2) _) _; rw [bnd_bnd]; rfl
      | _ => rfl
    rw [key, e2]
    refine ⟨_, rfl, ?_, h3, h4⟩
    rw [tk, List.filterMap_append, List.filterMap_cons]
    cases f x <;> simp
  · obtain ⟨rfl, h1, h2⟩ := h
    exact ⟨_, rfl, by rw [h2, List.take_length]⟩
end
end DY

set_option Elab.async false
set_option linter.all false
set_option maxRecDepth 100000
set_option maxHeartbeats 4000000
namespace DY
/-! ### operations, as rewriting -/
section
variable {own : D → D → R Rv} {own1 : D → R Rv} {i j : Int} {a b : List Nat} {xs ys : List D} {x y z d : D} {c c' : Nat} {fs fs' : List D} {p q : Bool} {kvs : List (Ky × D)} {kvt : List (List Ky × D)} {f h : D → D → R Rv} {t : BT}
theorem add_i : addD own (.int i) (.int j) = .ok (.int (i + j), false) := rfl
theorem add_s (h : a.length + b.length ≤ 100000) : addD own (.str a) (.str b) = .ok (.str (a ++ b), false) := by simp only [addD, if_pos h]; rfl
theorem add_l (h : xs.length + ys.length ≤ 1000) : addD own (.lst xs) (.lst ys) = .ok (.lst (xs ++ ys), true) := by simp only [addD, if_pos h]
theorem add_t (h : xs.length + ys.length ≤ 1000) : addD own (.tup xs) (.tup ys) = .ok (.tup (xs ++ ys), false) := by simp only [addD, if_pos h]
theorem add_o : addD own (.ins c fs) y = own (.ins c fs) y := by cases y <;> rfl
theorem add_o' : addD own (.int i) (.ins c fs) = own (.int i) (.ins c fs) := rfl
theorem sub_i : subD own (.int i) (.int j) = .ok (.int (i - j), false) := rfl
theorem sub_o : subD own (.ins c fs) y = own (.ins c fs) y := by cases y <;> rfl
theorem sub_o' : subD own (.int i) (.ins c fs) = own (.int i) (.ins c fs) := rfl
theorem mul_i (h : mulOk i j = true) : mulD own (.int i) (.int j) = .ok (.int (i * j), false) := by simp only [mulD, if_pos h]; rfl
theorem mul_o : mulD own (.ins c fs) y = own (.ins c fs) y := by cases y <;> rfl
theorem mul_o' : mulD own (.int i) (.ins c fs) = own (.int i) (.ins c fs) := rfl
theorem fdiv_i (h : divOk j = true) : fdivD (.int i) (.int j) = .ok (.int (i.fdiv j), false) := by simp only [fdivD, if_pos h]; rfl
theorem mod_i (h : j ≠ 0) : modD (.int i) (.int j) = .ok (.int (i.fmod j), false) := by simp only [modD, if_neg h]; rfl
theorem pow_i (h1 : 0 ≤ j) (h2 : j ≤ 1000) (h3 : i.natAbs < 18446744073709551616) : powD (.int i) (.int j) = .ok (.int (i ^ j.toNat), false) := by simp only [powD, if_pos (And.intro h1 (And.intro h2 h3))]; rfl
theorem neg_i : negD own1 (.int i) = .ok (.int (-i), false) := rfl
theorem neg_o : negD own1 (.ins c fs) = own1 (.ins c fs) := rfl
theorem mulOk_n (h1 : i.natAbs ≤ 2 ^ 200) (h2 : j.natAbs ≤ 2 ^ 200) : mulOk i j = true := mulOk_b (by omega) (by omega) (by omega) (by omega)
theorem lt_i : ltD (.int i) (.int j) = .ok (.bl (decide (i < j)), false) := rfl
theorem lt_s : ltD (.str a) (.str b) = .ok (.bl (ltN a b), false) := rfl
theorem le_i : leD (.int i) (.int j) = .ok (.bl (decide (i ≤ j)), false) := rfl
theorem le_s : leD (.str a) (.str b) = .ok (.bl (!ltN b a), false) := rfl
theorem gt_i : gtD (.int i) (.int j) = .ok (.bl (decide (j < i)), false) := rfl
theorem gt_s : gtD (.str a) (.str b) = .ok (.bl (ltN b a), false) := rfl
theorem ge_i : geD (.int i) (.int j) = .ok (.bl (decide (j ≤ i)), false) := rfl
theorem ge_s : geD (.str a) (.str b) = .ok (.bl (!ltN a b), false) := rfl
theorem eq_i : eqD own (.int i) (.int j) = .ok (.bl (decide (i = j)), false) := rfl
theorem eq_s : eqD own (.str a) (.str b) = .ok (.bl (decide (a = b)), false) := rfl
theorem eq_b : eqD own (.bl p) (.bl q) = .ok (.bl (decide (p = q)), false) := rfl
theorem eq_o : eqD own (.ins c fs) y = own (.ins c fs) y := by cases y <;> rfl
theorem eq_o' : eqD own (.int i) (.ins c fs) = own (.int i) (.ins c fs) := rfl
theorem ne_i : neD own (.int i) (.int j) = .ok (.bl (!decide (i = j)), false) := rfl
theorem ne_s : neD own (.str a) (.str b) = .ok (.bl (!decide (a = b)), false) := rfl
theorem ne_b : neD own (.bl p) (.bl q) = .ok (.bl (!decide (p = q)), false) := rfl
theorem ne_o : neD own (.ins c fs) y = bnd (own (.ins c fs) y) fun r => notR r.1 := by
  have : neD own (.ins c fs) y = (own (.ins c fs) y >>= fun r => isB r.1 >>= fun b => bl_ (!b)) := by cases y <;> rfl
  rw [this]
  show bnd (own (.ins c fs) y) _ = _
  refine bnd_fun fun r => ?_; obtain ⟨d, k⟩ := r; cases d <;> rfl
theorem eqv_s : eqv (.str a) (.str b) = decide (a = b) := by unfold eqv; rw [Bool.eq_iff_iff]; simp
theorem eq_g (hx : dok dep x = true) (hy : dok dep y = true) : eqD own x y = .ok (.bl (eqv x y), false) := by
  have : eqG own x y = .ok (.bl (eqv x y), false) := by unfold eqG; rw [hx, hy]; rfl
  cases x <;> cases y <;> first | exact this | rfl | (rw [eqv_s]; rfl)
theorem ne_g (hx : dok dep x = true) (hy : dok dep y = true) : neD own x y = .ok (.bl (!eqv x y), false) := by
  have : neG own x y = .ok (.bl (!eqv x y), false) := by unfold neG; rw [hx, hy]; rfl
  cases x <;> cases y <;> first | exact this | rfl | (rw [eqv_s]; rfl)
theorem isN_n : isN .non .non = .ok (.bl true, false) := rfl
theorem isN_i : isN (.int i) .non = .ok (.bl false, false) := rfl
theorem isN_b : isN (.bl p) .non = .ok (.bl false, false) := rfl
theorem isN_s : isN (.str a) .non = .ok (.bl false, false) := rfl
theorem isN_t : isN (.tup xs) .non = .ok (.bl false, false) := rfl
theorem isN_l : isN (.lst xs) .non = .ok (.bl false, false) := rfl
theorem isN_d : isN (.dic kvs) .non = .ok (.bl false, false) := rfl
theorem isN_o : isN (.ins c fs) .non = .ok (.bl false, false) := rfl
theorem notN_n : notN .non .non = .ok (.bl false, false) := rfl
theorem notN_i : notN (.int i) .non = .ok (.bl true, false) := rfl
theorem notN_b : notN (.bl p) .non = .ok (.bl true, false) := rfl
theorem notN_s : notN (.str a) .non = .ok (.bl true, false) := rfl
theorem notN_t : notN (.tup xs) .non = .ok (.bl true, false) := rfl
theorem notN_l : notN (.lst xs) .non = .ok (.bl true, false) := rfl
theorem notN_d : notN (.dic kvs) .non = .ok (.bl true, false) := rfl
theorem notN_o : notN (.ins c fs) .non = .ok (.bl true, false) := rfl
/-! own operators -/
theorem sel_t {g : D → D → Bool} (hg : g x y = true) : sel g f h x y = f x y := by unfold sel; rw [hg]; rfl
theorem sel_f {g : D → D → Bool} (hg : g x y = false) : sel g f h x y = h x y := by unfold sel; rw [hg]; rfl
theorem sel1_t {g : D → Bool} {f h : D → R Rv} (hg : g x = true) : sel1 g f h x = f x := by unfold sel1; rw [hg]; rfl
theorem isC_i : isC c (.ins c' fs) = decide (c' = c) := rfl
theorem isC_n : isC c (.int i) = false := rfl
theorem cc_ii : cc c (.ins c fs) (.ins c fs') = true := by simp [cc, isC]
theorem cc_in : cc c (.ins c' fs) (.int i) = false := by simp [cc, isC]
theorem cc_ni : cc c (.int i) y = false := rfl
theorem ci_in : ci c (.ins c fs) (.int i) = true := by simp [ci, isC, isI]
theorem ci_ii : ci c (.ins c' fs') (.ins c fs) = false := by simp [ci, isC, isI]
theorem ci_n : ci c (.int i) y = false := rfl
theorem ic_in : ic c (.int i) (.ins c fs) = true := by simp [ic, isC, isI]
theorem ic_ii : ic c (.ins c' fs') y = false := by simp [ic, isC, isI]
theorem cany_i : cany c (.ins c fs) (.int i) = true := by simp [cany, isC, hasTy]
theorem cany_o : cany c (.ins c fs) (.ins c' fs') = true := by simp [cany, isC, hasTy]
theorem cany_n : cany c (.ins c fs) .non = true := by simp [cany, isC, hasTy]
/-! in -/
theorem in_c {n : Nat} : inD (.str [n]) (.str a) = .ok (.bl (decide (n ∈ a)), false) := rfl
theorem in_di : inD (.int i) (.dic kvs) = .ok (.bl (dget kvs (.inl i)).isSome, false) := rfl
theorem in_ds : inD (.str a) (.dic kvs) = .ok (.bl (dget kvs (.inr a)).isSome, false) := by
  cases a with
  | nil => rfl
  | cons x l => cases l <;> rfl
theorem in_t (h : (flat x && xs.all flat) = true) : inD x (.tup xs) = .ok (.bl (xs.any fun z => eqv z x), false) := by
  unfold inD inB
  cases x <;> first | (simp only [h, if_true]; rfl) | (cases h; done)
theorem in_l (h : (dok dep x && doks dep xs) = true) : inD x (.lst xs) = .ok (.bl (xs.any fun z => eqv z x), false) := by
  unfold inD inB
  cases x <;> first | (simp only [h, if_true]; rfl) | (cases h; done)
theorem nin_c {n : Nat} : ninD (.str [n]) (.str a) = .ok (.bl (!decide (n ∈ a)), false) := rfl
theorem nin_ds : ninD (.str a) (.dic kvs) = .ok (.bl (!(dget kvs (.inr a)).isSome), false) := by
  cases a with
  | nil => rfl
  | cons x l => cases l <;> rfl
theorem nin_t (h : (flat x && xs.all flat) = true) : ninD x (.tup xs) = .ok (.bl (!(xs.any fun z => eqv z x)), false) := by
  unfold ninD inB
  cases x <;> first | (simp only [h, if_true]; rfl) | (cases h; done)
theorem nin_l (h : (dok dep x && doks dep xs) = true) : ninD x (.lst xs) = .ok (.bl (!(xs.any fun z => eqv z x)), false) := by
  unfold ninD inB
  cases x <;> first | (simp only [h, if_true]; rfl) | (cases h; done)
/-! x[i] -/
theorem opt_s : opt (some d) = .ok (d, false) := rfl
theorem ixt_0 : ixD (.tup (x :: xs)) (.int 0) = .ok (x, false) := by show opt (atI (x :: xs) 0) = _; simp [atI, ixN, opt]
theorem ixt_1 : ixD (.tup (x :: y :: xs)) (.int 1) = .ok (y, false) := by show opt (atI (x :: y :: xs) 1) = _; simp [atI, ixN, opt]; rw [if_pos (by omega)]; rfl
theorem ixt_2 : ixD (.tup (x :: y :: z :: xs)) (.int 2) = .ok (z, false) := by show opt (atI (x :: y :: z :: xs) 2) = _; simp [atI, ixN, opt]; rw [if_pos (by omega)]; rfl
theorem ixt_3 {w : D} : ixD (.tup (x :: y :: z :: w :: xs)) (.int 3) = .ok (w, false) := by show opt (atI (x :: y :: z :: w :: xs) 3) = _; simp [atI, ixN, opt]; rw [if_pos (by omega)]; rfl
theorem ixl_0 : ixD (.lst (x :: xs)) (.int 0) = .ok (x, false) := by show opt (atI (x :: xs) 0) = _; simp [atI, ixN, opt]
theorem ixl_1 : ixD (.lst (x :: y :: xs)) (.int 1) = .ok (y, false) := by show opt (atI (x :: y :: xs) 1) = _; simp [atI, ixN, opt]; rw [if_pos (by omega)]; rfl
theorem ixl_2 : ixD (.lst (x :: y :: z :: xs)) (.int 2) = .ok (z, false) := by show opt (atI (x :: y :: z :: xs) 2) = _; simp [atI, ixN, opt]; rw [if_pos (by omega)]; rfl
theorem ix_l (h0 : 0 ≤ i) (h1 : i < xs.length) : ixD (.lst xs) (.int i) = .ok (xs[i.toNat]'(by omega), false) := by
  obtain ⟨d, e1, e2⟩ := at_ok h0 h1
  show opt (atI xs i) = _
  rw [e2, List.getElem?_eq_getElem (by omega)] at *
  cases e1; rfl
theorem ix_t (h0 : 0 ≤ i) (h1 : i < xs.length) : ixD (.tup xs) (.int i) = .ok (xs[i.toNat]'(by omega), false) := by
  obtain ⟨d, e1, e2⟩ := at_ok h0 h1
  show opt (atI xs i) = _
  rw [e2, List.getElem?_eq_getElem (by omega)] at *
  cases e1; rfl
theorem ix_f (h0 : 0 ≤ i) (h1 : i < xs.length) : ixD (.fls xs) (.int i) = .ok (xs[i.toNat]'(by omega), false) := by
  obtain ⟨d, e1, e2⟩ := at_ok h0 h1
  show opt (atI xs i) = _
  rw [e2, List.getElem?_eq_getElem (by omega)] at *
  cases e1; rfl
theorem ix_ds : ixD (.dic kvs) (.str a) = opt (dget kvs (.inr a)) := rfl
theorem ix_di : ixD (.dic kvs) (.int i) = opt (dget kvs (.inl i)) := rfl
theorem sl_l {lo hi : Option Int} : sliceD lo hi (.lst xs) = .ok (.lst (cut xs lo hi), true) := rfl
theorem sl_f {lo hi : Option Int} : sliceD lo hi (.fls xs) = .ok (.lst (cut xs lo hi), true) := rfl
theorem sl_t {lo hi : Option Int} : sliceD lo hi (.tup xs) = .ok (.tup (cut xs lo hi), false) := rfl
theorem sl_s {lo hi : Option Int} (h : a.length ≤ 100000) : sliceD lo hi (.str a) = .ok (.str (cut a lo hi), false) := by simp only [sliceD, if_pos h]; rfl
/-! built-ins -/
theorem len_l : lenB own1 (.lst xs) = .ok (.int xs.length, false) := rfl
theorem len_f : lenB own1 (.fls xs) = .ok (.int xs.length, false) := rfl
theorem len_t : lenB own1 (.tup xs) = .ok (.int xs.length, false) := rfl
theorem len_d : lenB own1 (.dic kvs) = .ok (.int kvs.length, false) := rfl
theorem len_s (h : a.length ≤ 100000) : lenB own1 (.str a) = .ok (.int a.length, false) := by simp only [lenB, if_pos h]; rfl
theorem len_o : lenB own1 (.ins c fs) = own1 (.ins c fs) := rfl
theorem lenD_e : lenD own1 [x] = lenB own1 x := rfl
theorem isi_int_i : isiD [.int i, .ty .int] = .ok (.bl true, false) := rfl
theorem isi_int_b : isiD [.bl p, .ty .int] = .ok (.bl true, false) := rfl
theorem isi_bool_b : isiD [.bl p, .ty .bool] = .ok (.bl true, false) := rfl
theorem isi_bool_i : isiD [.int i, .ty .bool] = .ok (.bl false, false) := rfl
theorem isi_str_s : isiD [.str a, .ty .str] = .ok (.bl true, false) := rfl
theorem isi_str_i : isiD [.int i, .ty .str] = .ok (.bl false, false) := rfl
theorem isi_str_t : isiD [.tup xs, .ty .str] = .ok (.bl false, false) := rfl
theorem isi_tup_t : isiD [.tup xs, .ty .tuple] = .ok (.bl true, false) := rfl
theorem isi_tup_i : isiD [.int i, .ty .tuple] = .ok (.bl false, false) := rfl
theorem isi_tup_s : isiD [.str a, .ty .tuple] = .ok (.bl false, false) := rfl
theorem isi_dict_d : isiD [.dic kvs, .ty .dict] = .ok (.bl true, false) := rfl
theorem isi_int_s : isiD [.str a, .ty .int] = .ok (.bl false, false) := rfl
theorem isi_int_t : isiD [.tup xs, .ty .int] = .ok (.bl false, false) := rfl
theorem isi_int_o : isiD [.ins c fs, .ty .int] = .ok (.bl false, false) := rfl
theorem isi_o : isiD [.ins c fs, .cls c'] = .ok (.bl (decide (c = c')), false) := rfl
theorem isi_c_i : isiD [.int i, .cls c'] = .ok (.bl false, false) := rfl
theorem isi_c_s : isiD [.str a, .cls c'] = .ok (.bl false, false) := rfl
theorem isi_c_t : isiD [.tup xs, .cls c'] = .ok (.bl false, false) := rfl
theorem isi_c_n : isiD [.non, .cls c'] = .ok (.bl false, false) := rfl
theorem abs_i : absD [.int i] = .ok (.int (if i < 0 then -i else i), false) := rfl
theorem int_i : intD [.int i] = .ok (.int i, false) := rfl
theorem max_i : maxD [.int i, .int j] = .ok (.int (max i j), false) := by
  have : (if j > i then j else i) = max i j := by rw [Int.max_def]; split <;> split <;> omega
  rw [← this]; rfl
theorem min_i : minD [.int i, .int j] = .ok (.int (min i j), false) := by
  have : (if j < i then j else i) = min i j := by rw [Int.min_def]; split <;> split <;> omega
  rw [← this]; rfl
theorem bools_map (l : List Bool) : boolsOf (l.map D.bl) = .ok l := by
  induction l with
  | nil => rfl
  | cons b l ih => rw [List.map_cons, boolsOf, ih]; rfl
theorem ints_map (l : List Int) : intsOf (l.map D.int) = .ok l := by
  induction l with
  | nil => rfl
  | cons b l ih => rw [List.map_cons, intsOf, ih]; rfl
theorem strs_map (l : List (List Nat)) : strsOf (l.map D.str) = .ok l := by
  induction l with
  | nil => rfl
  | cons b l ih => rw [List.map_cons, strsOf, ih]; rfl
theorem all_m {l : List Bool} : allD [.lst (l.map D.bl)] = .ok (.bl (l.all id), false) := by
  show (boolsOf (l.map D.bl) >>= fun bs => bl_ (bs.all id)) = _; rw [bools_map]; rfl
theorem any_m {l : List Bool} : anyD [.lst (l.map D.bl)] = .ok (.bl (l.any id), false) := by
  show (boolsOf (l.map D.bl) >>= fun bs => bl_ (bs.any id)) = _; rw [bools_map]; rfl
theorem sum_m {l : List Int} : sumD [.lst (l.map D.int)] = .ok (.int l.sum, false) := by
  show (intsOf (l.map D.int) >>= fun bs => int_ bs.sum) = _; rw [ints_map]; rfl
theorem tuple_l : tupleD [.lst xs] = .ok (.tup xs, false) := rfl
theorem tuple_t : tupleD [.tup xs] = .ok (.tup xs, false) := rfl
theorem list_l : listD [.lst xs] = .ok (.lst xs, true) := rfl
theorem list_t : listD [.tup xs] = .ok (.lst xs, true) := rfl
theorem list_d : listD [.dic kvs] = .ok (.lst (kvs.map fun kv => kyD kv.1), true) := rfl
theorem dict_d : dictD [.dic kvs] = .ok (.dic kvs, true) := rfl
theorem str_i (h : i.natAbs.log2 < 1920) : strD own1 [.int i] = .ok (.str (figs i), false) := by simp only [strD, if_pos h]; rfl
theorem str_s : strD own1 [.str a] = .ok (.str a, false) := rfl
theorem str_o : strD own1 [.ins c fs] = own1 (.ins c fs) := rfl
theorem mkTup_e (h : xs.length ≤ 1000) : mkTup xs = .ok (.tup xs, false) := by unfold mkTup; rw [if_pos h]
theorem mkKey_e (h : xs.length ≤ 1000) : mkKey xs = .ok (.kt xs, false) := by unfold mkKey; rw [if_pos h]
theorem mkLst_e (h : xs.length ≤ 1000) : mkLst xs = .ok (.lst xs, true) := by unfold mkLst; rw [if_pos h]
theorem get_ds : dgetD (.dic kvs) (.str a) z = .ok ((dget kvs (.inr a)).getD z, false) := rfl
theorem get_di : dgetD (.dic kvs) (.int i) z = .ok ((dget kvs (.inl i)).getD z, false) := rfl
theorem app_e (h : xs.length < 1000) : appendM (.lst xs) [y] = .ok (.non, .lst (xs ++ [y])) := by simp only [appendM, if_pos h]
theorem put_ds (h : kvs.length < 1000) : putM (.dic kvs) (.str a) y = .ok (.dic (dput kvs (.inr a) y)) := by simp only [putM, if_pos h]
theorem put_di (h : kvs.length < 1000) : putM (.dic kvs) (.int i) y = .ok (.dic (dput kvs (.inl i) y)) := by simp only [putM, if_pos h]
theorem put_l0 : putM (.lst (x :: xs)) (.int 0) y = .ok (.lst (y :: xs)) := by simp [putM, ixN]
theorem put_l1 : putM (.lst (x :: z :: xs)) (.int 1) y = .ok (.lst (x :: y :: xs)) := by simp [putM, ixN]; rw [if_pos (by omega)]; rfl
theorem put_l2 {w : D} : putM (.lst (x :: z :: w :: xs)) (.int 2) y = .ok (.lst (x :: z :: y :: xs)) := by simp [putM, ixN]; rw [if_pos (by omega)]; rfl
theorem fld_0 : fldD c 0 (.ins c (x :: fs)) = .ok (x, false) := by simp [fldD, opt]
theorem fld_1 : fldD c 1 (.ins c (x :: y :: fs)) = .ok (y, false) := by simp [fldD, opt]
theorem fld_2 : fldD c 2 (.ins c (x :: y :: z :: fs)) = .ok (z, false) := by simp [fldD, opt]
theorem fld_3 {x1 : D} : fldD c 3 (.ins c (x :: y :: z :: x1 :: fs)) = .ok (x1, false) := by simp [fldD, opt]
theorem fld_4 {x1 x2 : D} : fldD c 4 (.ins c (x :: y :: z :: x1 :: x2 :: fs)) = .ok (x2, false) := by simp [fldD, opt]
theorem fld_5 {x1 x2 x3 : D} : fldD c 5 (.ins c (x :: y :: z :: x1 :: x2 :: x3 :: fs)) = .ok (x3, false) := by simp [fldD, opt]
theorem fld_6 {x1 x2 x3 x4 : D} : fldD c 6 (.ins c (x :: y :: z :: x1 :: x2 :: x3 :: x4 :: fs)) = .ok (x4, false) := by simp [fldD, opt]
end
end DY
namespace DY
theorem ix_s {i : Int} {a : List Nat} (hz : a.length ≤ 100000) (h0 : 0 ≤ i) (h1 : i < a.length) : ixD (.str a) (.int i) = .ok (.str [a[i.toNat]'(by omega)], false) := by
  have hl : i.toNat < a.length := by omega
  show (if a.length ≤ 100000 then opt ((atI a i).map fun c => .str [c]) else .no) = _
  rw [if_pos hz]
  unfold atI ixN
  rw [if_pos h0, if_pos h1]
  show opt ((a[i.toNat]?).map fun c => .str [c]) = _
  rw [List.getElem?_eq_getElem hl]; rfl
end DY
namespace DY
theorem wipe_0 {ρ : Env} : wipeS ρ [] = ρ := rfl
theorem wipe_s {ρ : Env} {i : Nat} {is : List Nat} : wipeS ρ (i :: is) = (wipeS ρ is).set i .un := rfl
end DY
namespace DY
section
variable {ρ : Env} {ek ev : Ev} {g : Tg} {it : Iv} {d : D} {ds : List D}
def dcS (g : Tg) (c : Option Ev) (ek ev : Ev) (vs : List Nat) (ds : List D) (ρ1 : Env) : R (Rv × Env) := if noOw ρ1 vs && decide (ds.length ≤ 1000) then do
    let (acc, ρ2) ← dcGo g c ek ev vs ds [] ρ1
    pure ((.dic acc, true), backS ρ1 ρ2 vs)
  else .no
theorem ev_dc {c : Option Ev} {vs : List Nat} : eDc it g c ek ev vs ρ = bnd (it ρ) fun r => dcS g c ek ev vs r.1 r.2 := rfl
theorem keyOf_s {a : List Nat} : keyOf (.str a) = .ok (.inr a) := rfl
theorem keyOf_i {i : Int} : keyOf (.int i) = .ok (.inl i) := rfl
theorem dcGo_s {c : Option Ev} {vs : List Nat} {acc : List (Ky × D)} : dcGo g c ek ev vs (d :: ds) acc ρ = bnd (g d (wipeS ρ vs)) fun ρ1 => bnd (cndO c ρ1) fun s => cnd s.1 (bnd (ek s.2) fun y => bnd (ev y.2) fun z => bnd (keyOf y.1.1) fun q => dcGo g c ek ev vs ds (dput acc q z.1.1) z.2) (dcGo g c ek ev vs ds acc s.2) := by
  show bnd (g d (wipeS ρ vs)) _ = _
  refine bnd_fun fun ρ1 => ?_
  have key : ∀ ρ2 : Env, (val ek ρ2 >>= fun (y, ρ3) => val ev ρ3 >>= fun (z, ρ4) => keyOf y >>= fun q => dcGo g c ek ev vs ds (dput acc q z) ρ4) = bnd (ek ρ2) fun y => bnd (ev y.2) fun z => bnd (keyOf y.1.1) fun q => dcGo g c ek ev vs ds (dput acc q z.1.1) z.2 := fun ρ2 => by
    rw [val_bnd]; refine bnd_fun fun y => ?_; dsimp only; rw [val_bnd]; rfl
  cases c with
  | none => exact key ρ1
  | some t =>
    show bnd (val t ρ1 >>= fun p => isB p.1 >>= fun b => .ok (b, p.2)) _ = _
    rw [val_bnd, bnd_bnd]
    show _ = bnd (bnd (t ρ1) _) _
    rw [bnd_bnd]
    refine bnd_fun fun r => ?_
    obtain ⟨⟨x, k⟩, ρ2⟩ := r
    cases x with
    | bl c => cases c with
      | false => rfl
      | true => exact key ρ2
    | _ => rfl
theorem wp_dc {α : Type} {mk : α → D} {xs : List α} {c : Option Ev} {vs : List Nat} {γ : Type} {k : Rv × Env → R γ} {P : γ → Prop} (I : Nat → List (Ky × D) → Env → Prop) (hn : noOw ρ vs = true) (hl : xs.length ≤ 1000) (h0 : I 0 [] ρ) (hs : ∀ n x acc ρ, xs[n]? = some x → I n acc ρ → Wn (bnd (g (mk x) (wipeS ρ vs)) fun ρ1 => bnd (cndO c ρ1) fun s => cnd s.1 (bnd (ek s.2) fun y => bnd (ev y.2) fun z => bnd (keyOf y.1.1) fun q => .ok (dput acc q z.1.1, z.2)) (.ok (acc, s.2))) fun y => I (n + 1) y.1 y.2) (he : ∀ acc ρ', I xs.length acc ρ' → Wn (k ((.dic acc, true), backS ρ ρ' vs)) P) : Wn (bnd (dcS g c ek ev vs (xs.map mk) ρ) k) P := by
  have go : ∀ (ys : List α) (n : Nat) (acc : List (Ky × D)) (ρ' : Env), (∀ i, ys[i]? = xs[n + i]?) → n + ys.length = xs.length → I n acc ρ' → Wn (bnd (dcGo g c ek ev vs (ys.map mk) acc ρ') fun r => k ((.dic r.1, true), backS ρ r.2 vs)) P := fun ys => by
    induction ys with
    | nil => intro n acc ρ hy hl h; exact he acc ρ (by rw [← hl]; exact h)
    | cons y ys ih =>
      intro n acc ρ' hy hl h
      have st := hs n y acc ρ' (by have := hy 0; rw [Nat.add_zero] at this; rw [← this]; rfl) h
      have nxt := fun acc ρ2 => ih (n + 1) acc ρ2 (fun i => by have := hy (i + 1); rw [show n + (i + 1) = n + 1 + i by omega] at this; rw [← this]; rfl) (by rw [List.length_cons] at hl; omega)
      have e1 : dcGo g c ek ev vs (mk y :: ys.map mk) acc ρ' = bnd (bnd (g (mk y) (wipeS ρ' vs)) fun ρ1 => bnd (cndO c ρ1) fun s => cnd s.1 (bnd (ek s.2) fun y => bnd (ev y.2) fun z => bnd (keyOf y.1.1) fun q => .ok (dput acc q z.1.1, z.2)) (.ok (acc, s.2))) fun r => dcGo g c ek ev vs (ys.map mk) r.1 r.2 := by
        rw [dcGo_s, bnd_bnd]; refine bnd_fun fun ρ1 => ?_; rw [bnd_bnd]; refine bnd_fun fun s => ?_
        obtain ⟨s1, s2⟩ := s
        cases s1 with
        | bl b => cases b with
          | false => rfl
          | true =>
            show bnd (ek s2) _ = bnd (bnd (ek s2) _) _
            rw [bnd_bnd]; refine bnd_fun fun y => ?_; rw [bnd_bnd]; refine bnd_fun fun z => ?_; rw [bnd_bnd]; rfl
        | _ => rfl
      rw [List.map_cons, e1, bnd_bnd]
      exact wp_use st fun x hx => nxt _ _ hx
  have e0 : dcS g c ek ev vs (xs.map mk) ρ = bnd (dcGo g c ek ev vs (xs.map mk) [] ρ) fun r => .ok ((.dic r.1, true), backS ρ r.2 vs) := by
    unfold dcS
    rw [hn, List.length_map, decide_eq_true hl]; rfl
  rw [e0, bnd_bnd]
  exact go xs 0 [] ρ (fun i => by rw [Nat.zero_add]) (by rw [Nat.zero_add]) h0
end
end DY
namespace DY
section
variable {ρ ρ0 : Env} {e : Ev} {g : Tg} {d : D} {ds acc : List D} {c : Option Ev} {i : Nat} {is vs : List Nat} {s : Slot}
def okS : Option Slot → Bool
  | some (.ow _) => false
  | some _ => true
  | none => false
/-- a slot that holds no object -/
def unS : Option D → Slot
  | none => .un
  | some d => .sh d
theorem okS_un : okS (some .un) = true := rfl
theorem okS_sh : okS (some (.sh d)) = true := rfl
theorem okS_us {k : Option D} : okS (some (unS k)) = true := by cases k <;> rfl
theorem noOw_0 : noOw ρ [] = true := rfl
theorem noOw_s : noOw ρ (i :: is) = (okS ρ[i]? && noOw ρ is) := by
  unfold noOw
  rw [List.all_cons]
  cases ρ[i]? with
  | none => rfl
  | some s => cases s <;> rfl
theorem back_0 : backS ρ0 ρ [] = ρ := rfl
theorem back_s : backS ρ0 ρ (i :: is) = (backS ρ0 ρ is).set i (ρ0.getD i .un) := rfl
theorem getD_0 {t : Slot} : (s :: ρ).getD 0 t = s := rfl
theorem getD_s {t : Slot} : (s :: ρ).getD (i + 1) t = ρ.getD i t := by simp [List.getD]
theorem lcS_lit (hn : noOw ρ vs = true) (hl : ds.length ≤ 1000) : lcS g c e vs ds ρ = bnd (lcGo g c e vs ds [] ρ) fun r => .ok ((.lst r.1, true), backS ρ r.2 vs) := by
  unfold lcS
  simp only [hn, decide_eq_true hl]; rfl
theorem lcGo_0 : lcGo g c e vs [] acc ρ = .ok (acc, ρ) := rfl
end
end DY

set_option Elab.async false
set_option linter.all false
set_option maxRecDepth 100000
set_option maxHeartbeats 4000000
namespace DY
/-! ### numbers by letters -/
abbrev Nm := List (Nat × Int)
def nO (m : Nm) (c : Nat) : Option Int := (m.find? fun p => decide (p.1 = c)).map (·.2)
def ng (m : Nm) (c : Nat) : Int := (nO m c).getD 0
def nput (m : Nm) (c : Nat) (v : Int) : Nm := if (m.any fun p => decide (p.1 = c)) = true then m.map (fun p => if p.1 = c then (p.1, v) else p) else m ++ [(c, v)]
def kvD (p : Nat × Int) : Ky × D := (.inr [p.1], .int p.2)
@[reducible] def dD (m : Nm) : D := .dic (m.map kvD)
theorem key_eq (p : Nat × Int) (c : Nat) : decide ((kvD p).1 = (Sum.inr [c] : Ky)) = decide (p.1 = c) := by
  unfold kvD
  rw [decide_eq_decide]
  constructor
  · intro h
    injection h with h
    injection h
  · intro h; rw [h]
theorem dget_dD (m : Nm) (c : Nat) : dget (m.map kvD) (.inr [c]) = (nO m c).map D.int := by
  unfold dget nO
  induction m with
  | nil => rfl
  | cons p m ih =>
    rw [List.map_cons, List.find?_cons, List.find?_cons, key_eq]
    cases decide (p.1 = c) with
    | true => rfl
    | false => exact ih
theorem dput_dD (m : Nm) (c : Nat) (v : Int) : dput (m.map kvD) (.inr [c]) (.int v) = (nput m c v).map kvD := by
  unfold dput nput
  have e : ((m.map kvD).any fun kv => decide (kv.1 = (Sum.inr [c] : Ky))) = m.any fun p => decide (p.1 = c) := by
    rw [List.any_map]
    congr 1
    funext p
    exact key_eq p c
  rw [e]
  split
  · rw [List.map_map, List.map_map]
    refine List.map_congr_left fun p _ => ?_
    have := key_eq p c
    rw [decide_eq_decide] at this
    show (if (kvD p).1 = (Sum.inr [c] : Ky) then ((kvD p).1, D.int v) else kvD p) = kvD (if p.1 = c then (p.1, v) else p)
    by_cases q : p.1 = c
    · rw [if_pos q, if_pos (this.mpr q)]; rfl
    · rw [if_neg q, if_neg fun z => q (this.mp z)]
  · rw [List.map_append]; rfl
structure NmOk (L : Nat) (B : Int) (m : Nm) : Prop where
  nd : (m.map (·.1)).Nodup
  lt : ∀ p ∈ m, 97 ≤ p.1 ∧ p.1 ≤ 122
  bd : ∀ p ∈ m, -B ≤ p.2 ∧ p.2 ≤ B
  len : m.length ≤ L
theorem NmOk.nil {L : Nat} {B : Int} : NmOk L B [] := ⟨List.nodup_nil, fun _ h => (by cases h), fun _ h => (by cases h), Nat.zero_le _⟩
theorem NmOk.mono {L L' : Nat} {B B' : Int} {m : Nm} (h : NmOk L B m) (hl : L ≤ L') (hb : B ≤ B') : NmOk L' B' m := ⟨h.nd, h.lt, fun p hp => by have := h.bd p hp; omega, Nat.le_trans h.len hl⟩
theorem nput_any {m : Nm} {c : Nat} : (m.any fun p => decide (p.1 = c)) = true ↔ c ∈ m.map (·.1) := by
  rw [List.any_eq_true]
  constructor
  · rintro ⟨p, hp, e⟩; exact List.mem_map.mpr ⟨p, hp, of_decide_eq_true e⟩
  · intro h; obtain ⟨p, hp, e⟩ := List.mem_map.mp h; exact ⟨p, hp, decide_eq_true e⟩
theorem nput_keys (m : Nm) (c : Nat) (v : Int) : (nput m c v).map (·.1) = if c ∈ m.map (·.1) then m.map (·.1) else m.map (·.1) ++ [c] := by
  unfold nput
  by_cases q : c ∈ m.map (·.1)
  · rw [if_pos (nput_any.mpr q), if_pos q, List.map_map]
    refine List.map_congr_left fun p _ => ?_
    show (if p.1 = c then (p.1, v) else p).1 = p.1
    split <;> rfl
  · rw [if_neg fun z => q (nput_any.mp z), if_neg q, List.map_append]; rfl
theorem mem_nput {m : Nm} {c : Nat} {v : Int} {p : Nat × Int} (h : p ∈ nput m c v) : p ∈ m ∨ p = (c, v) := by
  unfold nput at h
  split at h
  · obtain ⟨q, hq, e⟩ := List.mem_map.mp h
    split at e
    · rename_i z; exact .inr (by rw [← e, z])
    · exact .inl (e ▸ hq)
  · rcases List.mem_append.mp h with h | h
    · exact .inl h
    · exact .inr (List.mem_singleton.mp h)
theorem NmOk.put {L : Nat} {B : Int} {m : Nm} {c : Nat} {v : Int} (h : NmOk L B m) (h1 : 97 ≤ c) (h2 : c ≤ 122) (h3 : -B ≤ v) (h4 : v ≤ B) : NmOk (L + 1) B (nput m c v) := by
  refine ⟨?_, fun p hp => ?_, fun p hp => ?_, ?_⟩
  · rw [nput_keys]
    split
    · exact h.nd
    · rename_i q
      rw [List.nodup_append]
      refine ⟨h.nd, by simp, fun a ha b hb => ?_⟩
      rw [List.mem_singleton] at hb
      subst hb
      exact fun z => q (z ▸ ha)
  · rcases mem_nput hp with hp | rfl
    · exact h.lt p hp
    · exact ⟨h1, h2⟩
  · rcases mem_nput hp with hp | rfl
    · exact h.bd p hp
    · exact ⟨h3, h4⟩
  · have : (nput m c v).length = ((nput m c v).map (·.1)).length := by rw [List.length_map]
    rw [this, nput_keys]
    have hl := h.len
    split
    · rw [List.length_map]; omega
    · rw [List.length_append, List.length_map]; simp; omega
theorem nO_some {m : Nm} {c : Nat} {v : Int} (h : nO m c = some v) : (c, v) ∈ m := by
  unfold nO at h
  obtain ⟨p, hp, rfl⟩ := Option.map_eq_some_iff.mp h
  have := List.find?_some hp
  have e := of_decide_eq_true this
  have := List.mem_of_find?_eq_some hp
  rw [← e]; exact this
theorem nO_none {m : Nm} {c : Nat} (h : nO m c = none) : c ∉ m.map (·.1) := by
  unfold nO at h
  rw [Option.map_eq_none_iff, List.find?_eq_none] at h
  intro z
  obtain ⟨p, hp, e⟩ := List.mem_map.mp z
  exact h p hp (decide_eq_true e)
theorem nO_mem {L : Nat} {B : Int} {m : Nm} (h : NmOk L B m) {p : Nat × Int} (hp : p ∈ m) : nO m p.1 = some p.2 := by
  cases e : nO m p.1 with
  | none => exact absurd (List.mem_map.mpr ⟨p, hp, rfl⟩) (nO_none e)
  | some v =>
    have hm := nO_some e
    have nd := h.nd
    clear e h
    induction m with
    | nil => cases hp
    | cons q m ih =>
      rw [List.map_cons, List.nodup_cons] at nd
      rcases List.mem_cons.mp hp with rfl | hp
      · rcases List.mem_cons.mp hm with e | hm
        · rw [← e]
        · exact absurd (List.mem_map.mpr ⟨_, hm, rfl⟩) nd.1
      · rcases List.mem_cons.mp hm with e | hm
        · exact absurd (List.mem_map.mpr ⟨p, hp, by rw [← e]⟩) nd.1
        · exact ih hp hm nd.2
theorem nO_put (m : Nm) (c : Nat) (v : Int) (x : Nat) : nO (nput m c v) x = if x = c then some v else nO m x := by
  unfold nput
  split
  · rename_i q
    unfold nO
    induction m with
    | nil => simp at q
    | cons p m ih =>
      rw [List.map_cons, List.find?_cons, List.find?_cons]
      by_cases hp : p.1 = c
      · rw [if_pos hp]
        by_cases hx : x = c
        · subst hx
          simp [hp]
        · have : decide (p.1 = x) = false := decide_eq_false fun z => hx (z ▸ hp.symm ▸ rfl)
          rw [this, if_neg hx]
          simp only [hp]
          by_cases q2 : (m.any fun p => decide (p.1 = c)) = true
          · have := ih q2; rw [if_neg hx] at this; exact this
          · have nm : ∀ q ∈ m, q.1 ≠ c := fun q hq z => q2 (List.any_eq_true.mpr ⟨q, hq, decide_eq_true z⟩)
            have : m.map (fun p => if p.1 = c then (p.1, v) else p) = m := by
              conv => rhs; rw [← List.map_id m]
              exact List.map_congr_left fun q hq => if_neg (nm q hq)
            rw [this]
      · rw [if_neg hp]
        have q2 : (m.any fun p => decide (p.1 = c)) = true := by
          rw [List.any_cons, decide_eq_false hp, Bool.false_or] at q; exact q
        by_cases hx : p.1 = x
        · rw [decide_eq_true hx]
          have : x ≠ c := fun z => hp (hx.trans z)
          rw [if_neg this]
        · rw [decide_eq_false hx]; exact ih q2
  · rename_i q
    unfold nO
    rw [List.find?_append]
    by_cases hx : x = c
    · subst hx
      have : m.find? (fun p => decide (p.1 = x)) = none := by
        rw [List.find?_eq_none]
        exact fun p hp z => q (List.any_eq_true.mpr ⟨p, hp, z⟩)
      rw [this, if_pos rfl]
      simp
    · rw [if_neg hx]
      have : List.find? (fun p => decide (p.1 = x)) [(c, v)] = none := by
        rw [List.find?_eq_none]
        intro p hp z
        rw [List.mem_singleton] at hp
        subst hp
        exact hx (of_decide_eq_true z).symm
      rw [this, Option.or_none]
theorem ng_put (m : Nm) (c : Nat) (v : Int) (x : Nat) : ng (nput m c v) x = if x = c then v else ng m x := by
  unfold ng
  rw [nO_put]
  split <;> rfl
theorem NmOk.ng_bd {L : Nat} {B : Int} {m : Nm} (h : NmOk L B m) (hB : 0 ≤ B) (c : Nat) : -B ≤ ng m c ∧ ng m c ≤ B := by
  unfold ng
  cases e : nO m c with
  | none => exact ⟨by show -B ≤ 0; omega, hB⟩
  | some v => exact h.bd _ (nO_some e)
/-! ### in order -/
theorem pw_ext : ∀ {l l' : Nm}, l.Pairwise (fun p q => p.1 < q.1) → l'.Pairwise (fun p q => p.1 < q.1) → (∀ p, p ∈ l ↔ p ∈ l') → l = l'
  | [], [], _, _, _ => rfl
  | [], b :: l', _, _, h => absurd ((h b).mpr (List.mem_cons_self ..)) (by intro z; cases z)
  | a :: l, [], _, _, h => absurd ((h a).mp (List.mem_cons_self ..)) (by intro z; cases z)
  | a :: l, b :: l', h1, h2, h => by
    rw [List.pairwise_cons] at h1 h2
    have e : a = b := by
      rcases List.mem_cons.mp ((h a).mp (List.mem_cons_self ..)) with e | m1
      · exact e
      · rcases List.mem_cons.mp ((h b).mpr (List.mem_cons_self ..)) with e | m2
        · exact e.symm
        · have := h1.1 b m2; have := h2.1 a m1; omega
    subst e
    rw [pw_ext h1.2 h2.2 fun p => ⟨fun hp => ?_, fun hp => ?_⟩]
    · rcases List.mem_cons.mp ((h p).mp (List.mem_cons_of_mem _ hp)) with rfl | q
      · have := h1.1 p hp; omega
      · exact q
    · rcases List.mem_cons.mp ((h p).mpr (List.mem_cons_of_mem _ hp)) with rfl | q
      · have := h2.1 p hp; omega
      · exact q
def canon (f : Nat → Int) : Nm := (List.range' 97 26).filterMap fun c => if f c = 0 then none else some (c, f c)
theorem canon_congr {f f' : Nat → Int} (h : ∀ c, 97 ≤ c → c ≤ 122 → f c = f' c) : canon f = canon f' := by
  have : ∀ (l : List Nat), (∀ c ∈ l, 97 ≤ c ∧ c ≤ 122) → (l.filterMap fun c => if f c = 0 then none else some (c, f c)) = l.filterMap fun c => if f' c = 0 then none else some (c, f' c) := fun l => by
    induction l with
    | nil => intro _; rfl
    | cons c l ih =>
      intro hl
      have hc := hl c (List.mem_cons_self ..)
      rw [List.filterMap_cons, List.filterMap_cons, ih fun c hc => hl c (List.mem_cons_of_mem _ hc), h c hc.1 hc.2]
  exact this _ fun c hc => by
    rw [List.mem_range'_1] at hc
    omega
theorem mem_canon {f : Nat → Int} {p : Nat × Int} : p ∈ canon f ↔ (97 ≤ p.1 ∧ p.1 ≤ 122) ∧ f p.1 ≠ 0 ∧ p.2 = f p.1 := by
  unfold canon
  rw [List.mem_filterMap]
  constructor
  · rintro ⟨c, hc, e⟩
    rw [List.mem_range'_1] at hc
    split at e
    · cases e
    · cases e; rename_i q; exact ⟨⟨hc.1, by omega⟩, q, rfl⟩
  · rintro ⟨h1, h2, h3⟩
    refine ⟨p.1, List.mem_range'_1.mpr ⟨h1.1, by omega⟩, ?_⟩
    rw [if_neg h2, ← h3]
theorem filterMap_pw {α : Type} {R : α → Nat × Int → Prop} : ∀ {l : List Nat} {g : Nat → Option (Nat × Int)}, (∀ c p, g c = some p → p.1 = c) → l.Pairwise (· < ·) → (l.filterMap g).Pairwise (fun p q => p.1 < q.1)
  | [], _, _, _ => .nil
  | c :: l, g, hg, h => by
    rw [List.pairwise_cons] at h
    rw [List.filterMap_cons]
    cases e : g c with
    | none => exact filterMap_pw (R := R) hg h.2
    | some p =>
      refine List.pairwise_cons.mpr ⟨fun q hq => ?_, filterMap_pw (R := R) hg h.2⟩
      obtain ⟨c', hc', e'⟩ := List.mem_filterMap.mp hq
      rw [hg c p e, hg c' q e']
      exact h.1 c' hc'
theorem canon_pw (f : Nat → Int) : (canon f).Pairwise (fun p q => p.1 < q.1) := by
  refine filterMap_pw (α := Nat) (R := fun _ _ => True) (fun c p e => ?_) List.pairwise_lt_range'
  split at e
  · cases e
  · cases e; rfl
theorem canon_ok {f : Nat → Int} {B : Int} (h : ∀ c, -B ≤ f c ∧ f c ≤ B) : NmOk 26 B (canon f) := by
  refine ⟨?_, fun p hp => (mem_canon.mp hp).1, fun p hp => ?_, ?_⟩
  · have := canon_pw f
    rw [List.nodup_iff_pairwise_ne, List.pairwise_map]
    exact this.imp fun h => by omega
  · rw [(mem_canon.mp hp).2.2]; exact h _
  · unfold canon
    refine Nat.le_trans (List.length_filterMap_le ..) ?_
    rw [List.length_range']; decide
theorem ng_canon {f : Nat → Int} {c : Nat} (h1 : 97 ≤ c) (h2 : c ≤ 122) : ng (canon f) c = f c := by
  unfold ng
  cases e : nO (canon f) c with
  | none =>
    have := nO_none e
    by_cases q : f c = 0
    · rw [q]; rfl
    · exact absurd (List.mem_map.mpr ⟨(c, f c), mem_canon.mpr ⟨⟨h1, h2⟩, q, rfl⟩, rfl⟩) this
  | some v => exact (mem_canon.mp (nO_some e)).2.2
theorem sort_codes {L : Nat} {B : Int} {m : Nm} (h : NmOk L B m) : ∃ ys : List Nat, sortS (m.map fun p => [p.1]) = ys.map (fun c => [c]) ∧ (∀ c, c ∈ ys ↔ c ∈ m.map (·.1)) ∧ ys.Pairwise (· < ·) := by
  have pm := sortS_perm (m.map fun p => [p.1])
  have pw := sortS_pw (m.map fun p => [p.1])
  have one : ∀ x ∈ sortS (m.map fun p => [p.1]), ∃ c, x = [c] := fun x hx => by
    obtain ⟨p, _, rfl⟩ := List.mem_map.mp (pm.mem_iff.mp hx)
    exact ⟨_, rfl⟩
  generalize hs : sortS (m.map fun p => [p.1]) = s at *
  have ex : ∃ ys : List Nat, s = ys.map (fun c => [c]) := by
    clear pm pw hs
    induction s with
    | nil => exact ⟨[], rfl⟩
    | cons x s ih =>
      obtain ⟨c, rfl⟩ := one x (List.mem_cons_self ..)
      obtain ⟨ys, rfl⟩ := ih fun y hy => one y (List.mem_cons_of_mem _ hy)
      exact ⟨c :: ys, rfl⟩
  obtain ⟨ys, rfl⟩ := ex
  have inj : ∀ a b : Nat, ([a] : List Nat) = [b] → a = b := fun a b e => by injection e
  refine ⟨ys, rfl, fun c => ?_, ?_⟩
  · have := pm.mem_iff (a := [c])
    constructor
    · intro hc
      obtain ⟨p, hp, e⟩ := List.mem_map.mp (this.mp (List.mem_map.mpr ⟨c, hc, rfl⟩))
      exact List.mem_map.mpr ⟨p, hp, inj _ _ e⟩
    · intro hc
      obtain ⟨p, hp, e⟩ := List.mem_map.mp hc
      obtain ⟨c', hc', e'⟩ := List.mem_map.mp (this.mpr (List.mem_map.mpr ⟨p, hp, by rw [e]⟩))
      exact inj _ _ e' ▸ hc'
  · have nd : (ys.map fun c => [c]).Nodup := by
      rw [pm.nodup_iff]
      have := h.nd
      rw [List.nodup_iff_pairwise_ne, List.pairwise_map] at this ⊢
      exact this.imp fun z e => z (inj _ _ e)
    rw [List.nodup_iff_pairwise_ne, List.pairwise_map] at nd
    rw [List.pairwise_map] at pw
    refine (nd.and pw).imp fun {a b} z => ?_
    have h1 : ltN [b] [a] = false := by have := z.2; unfold leS at this; simpa using this
    have h2 : a ≠ b := fun e => z.1 (by rw [e])
    have : ¬ b < a := fun q => by
      unfold ltN at h1
      rw [decide_eq_true q, Bool.true_or] at h1
      cases h1
    omega
theorem canon_of {L : Nat} {B : Int} {m : Nm} (h : NmOk L B m) {ys : List Nat} (h1 : ∀ c, c ∈ ys ↔ c ∈ m.map (·.1)) (h2 : ys.Pairwise (· < ·)) : ys.filterMap (fun c => if ng m c = 0 then none else some (c, ng m c)) = canon (ng m) := by
  refine pw_ext (filterMap_pw (α := Nat) (R := fun _ _ => True) (fun c p e => ?_) h2) (canon_pw _) fun p => ?_
  · split at e
    · cases e
    · cases e; rfl
  · rw [mem_canon, List.mem_filterMap]
    constructor
    · rintro ⟨c, hc, e⟩
      split at e
      · cases e
      · rename_i q
        cases e
        obtain ⟨p, hp, e⟩ := List.mem_map.mp ((h1 c).mp hc)
        exact ⟨by rw [← e]; exact h.lt p hp, q, rfl⟩
    · rintro ⟨h3, h4, h5⟩
      have : nO m p.1 ≠ none := fun z => h4 (by unfold ng; rw [z]; rfl)
      obtain ⟨v, hv⟩ := Option.ne_none_iff_exists'.mp this
      exact ⟨p.1, (h1 _).mpr (List.mem_map.mpr ⟨_, nO_some hv, rfl⟩), by rw [if_neg h4, ← h5]⟩
/-! ### forms -/
@[reducible] def prD (p : Nat × Int) : D := .tup [.str [p.1], .int p.2]
@[reducible] def tmD (t : Nm) : D := .tup (t.map prD)
def fmN (f : Nat → Int) : List Nat := (canon f).map (·.1)
@[reducible] def fm (c : Int) (f : Nat → Int) : D := .ins 1 [.int c, tmD (canon f), .str (fmN f)]
theorem pairs_tm (t : Nm) : pairs (t.map prD) = .ok (t.map kvD) := by
  induction t with
  | nil => rfl
  | cons p t ih =>
    show pairs (D.tup [.str [p.1], .int p.2] :: t.map prD) = _
    simp only [pairs, keyOf, ih, bind, R.bind, pure]
    rfl
theorem merge_dD (m t : Nm) : merge (m.map kvD) (t.map kvD) = (t.foldl (fun a p => nput a p.1 p.2) m).map kvD := by
  unfold merge
  induction t generalizing m with
  | nil => rfl
  | cons p t ih =>
    rw [List.map_cons, List.foldl_cons, List.foldl_cons]
    have : dput (m.map kvD) (kvD p).1 (kvD p).2 = (nput m p.1 p.2).map kvD := dput_dD m p.1 p.2
    rw [this]
    exact ih _
theorem fold_nput : ∀ (t m : Nm), ((m ++ t).map (·.1)).Nodup → t.foldl (fun a p => nput a p.1 p.2) m = m ++ t
  | [], m, _ => by simp
  | p :: t, m, h => by
    have np : p.1 ∉ m.map (·.1) := by
      rw [List.map_append, List.nodup_append] at h
      intro z
      exact h.2.2 _ z _ (List.mem_cons_self ..) rfl
    have e : nput m p.1 p.2 = m ++ [p] := by
      unfold nput
      rw [if_neg fun z => np (nput_any.mp z)]
    rw [List.foldl_cons, e, fold_nput t (m ++ [p]) (by rw [List.append_assoc]; exact h), List.append_assoc]; rfl
theorem ng_take {L : Nat} {B : Int} {m : Nm} (h : NmOk L B m) {k : Nat} {p : Nat × Int} (hp : m[k]? = some p) : (∀ x, ng (m.take (k + 1)) x = if x = p.1 then p.2 else ng (m.take k) x) ∧ ng (m.take k) p.1 = 0 := by
  obtain ⟨hl, e⟩ := List.getElem?_eq_some_iff.mp hp
  have tk : m.take (k + 1) = m.take k ++ [p] := by rw [List.take_add_one, hp]; rfl
  have np : p.1 ∉ (m.take k).map (·.1) := by
    have nd := h.nd
    have : m = m.take k ++ p :: m.drop (k + 1) := by
      conv => lhs; rw [← List.take_append_drop k m, List.drop_eq_getElem_cons hl, e]
    rw [this, List.map_append, List.nodup_append] at nd
    intro z
    exact nd.2.2 _ z _ (List.mem_cons_self ..) rfl
  have n0 : nO (m.take k) p.1 = none := by
    cases q : nO (m.take k) p.1 with
    | none => rfl
    | some v => exact absurd (List.mem_map.mpr ⟨_, nO_some q, rfl⟩) np
  refine ⟨fun x => ?_, by unfold ng; rw [n0]; rfl⟩
  have : m.take k ++ [p] = nput (m.take k) p.1 p.2 := by
    unfold nput
    rw [if_neg fun z => np (nput_any.mp z)]
  rw [tk, this, ng_put]
theorem NmOk.of_ng {L : Nat} {B B' : Int} {m : Nm} (h : NmOk L B m) (hb : ∀ x, -B' ≤ ng m x ∧ ng m x ≤ B') : NmOk L B' m := ⟨h.nd, h.lt, fun p hp => by
  have := hb p.1
  unfold ng at this
  rw [nO_mem h hp] at this
  exact this, h.len⟩
end DY
namespace DY
/-! ### equality of data -/
mutual
theorem eqv_refl : ∀ (n : Nat) (x : D), dok n x = true → eqv x x = true
  | _, .non, _ => rfl
  | _, .bl b, _ => by simp [eqv]
  | _, .int i, _ => by simp [eqv]
  | _, .str s, _ => by simp [eqv]
  | n + 1, .tup xs, h => by
    have h' : doks n xs = true := by simpa [dok] using h
    show eqvs xs xs = true
    exact eqvs_refl n xs h'
  | n + 1, .kt xs, h => by
    have h' : doks n xs = true := by simpa [dok] using h
    show eqvs xs xs = true
    exact eqvs_refl n xs h'
  | n + 1, .lst xs, h => by
    have h' : doks n xs = true := by simpa [dok] using h
    show eqvs xs xs = true
    exact eqvs_refl n xs h'
  | n + 1, .fls xs, h => by
    have h' : doks n xs = true := by simpa [dok] using h
    show eqvs xs xs = true
    exact eqvs_refl n xs h'
  | 0, .tup xs, h => by simp [dok] at h
  | 0, .kt xs, h => by simp [dok] at h
  | 0, .lst xs, h => by simp [dok] at h
  | 0, .fls xs, h => by simp [dok] at h
  | _, .dic xs, h => by simp [dok] at h
  | _, .dct xs, h => by simp [dok] at h
  | _, .ins c xs, h => by simp [dok] at h
  | _, .ty t, h => by simp [dok] at h
  | _, .cls t, h => by simp [dok] at h
theorem eqvs_refl : ∀ (n : Nat) (xs : List D), doks n xs = true → eqvs xs xs = true
  | _, [], _ => by simp [eqvs]
  | n, x :: xs, h => by
    have h' : dok n x = true ∧ doks n xs = true := by simpa [doks] using h
    simp only [eqvs, eqv_refl n x h'.1, eqvs_refl n xs h'.2, Bool.and_self]
end
theorem doks_all {n : Nat} : ∀ {xs : List D}, (∀ x ∈ xs, dok n x = true) → doks n xs = true
  | [], _ => by simp [doks]
  | x :: xs, h => by
    simp only [doks, h x (List.mem_cons_self ..), doks_all fun y hy => h y (List.mem_cons_of_mem _ hy), Bool.and_self]
theorem dok_lst {n : Nat} {xs : List D} (h : ∀ x ∈ xs, dok n x = true) : dok (n + 1) (.lst xs) = true := by simp only [dok]; exact doks_all h
theorem dok_tup {n : Nat} {xs : List D} (h : ∀ x ∈ xs, dok n x = true) : dok (n + 1) (.tup xs) = true := by simp only [dok]; exact doks_all h
theorem dok_int {n : Nat} {i : Int} : dok n (.int i) = true := by simp [dok]
theorem dok_bl {n : Nat} {i : Bool} : dok n (.bl i) = true := by simp [dok]
theorem dok_str {n : Nat} {s : List Nat} (h : ∀ c ∈ s, c ≤ 122) : dok n (.str s) = true := by
  have : sok s = true := by
    unfold sok
    rw [List.all_eq_true]
    intro c hc
    exact decide_eq_true (by have := h c hc; omega)
  cases n <;> simpa [dok] using this
theorem dok_tm {n : Nat} {t : Nm} (h : ∀ p ∈ t, p.1 ≤ 122) : dok (n + 2) (tmD t) = true := by
  refine dok_tup fun x hx => ?_
  obtain ⟨p, hp, rfl⟩ := List.mem_map.mp hx
  refine dok_tup fun y hy => ?_
  rcases List.mem_cons.mp hy with rfl | hy
  · exact dok_str fun c hc => by rw [List.mem_singleton.mp hc]; exact h p hp
  · rw [List.mem_singleton.mp hy]; exact dok_int
theorem eqvs_tm : ∀ t t' : Nm, eqvs (t.map prD) (t'.map prD) = decide (t = t')
  | [], [] => rfl
  | [], q :: t' => rfl
  | p :: t, [] => rfl
  | p :: t, q :: t' => by
    have e : eqv (prD p) (prD q) = decide (p = q) := by
      show eqvs [D.str [p.1], D.int p.2] [D.str [q.1], D.int q.2] = _
      simp only [eqvs, eqv, Bool.and_true]
      rw [Bool.eq_iff_iff, Bool.and_eq_true, beq_iff_eq, beq_iff_eq, decide_eq_true_eq]
      constructor
      · rintro ⟨h1, h2⟩
        have h1 : p.1 = q.1 := by injection h1
        exact Prod.ext h1 h2
      · intro h; rw [h]; exact ⟨rfl, rfl⟩
    rw [List.map_cons, List.map_cons]
    simp only [eqvs, e, eqvs_tm t t']
    rw [Bool.eq_iff_iff, Bool.and_eq_true, decide_eq_true_eq, decide_eq_true_eq, decide_eq_true_eq, List.cons.injEq]
theorem w_eqT {own : D → D → R Rv} {t t' : Nm} {Q : D → Bool → Prop} (h : ∀ p ∈ t, p.1 ≤ 122) (h' : ∀ p ∈ t', p.1 ≤ 122) (k : Q (.bl (decide (t = t'))) false) : Wr (eqD own (tmD t) (tmD t')) Q := by
  refine w_ok (d := .bl (decide (t = t'))) (b := false) ?_ k
  show (if dok dep (tmD t) && dok dep (tmD t') then bl_ (eqv (tmD t) (tmD t')) else own (tmD t) (tmD t')) = _
  rw [show dok dep (tmD t) = true from dok_tm h, show dok dep (tmD t') = true from dok_tm h']
  show bl_ (eqvs (t.map prD) (t'.map prD)) = _
  rw [eqvs_tm]; rfl
/-- x != x -/
theorem w_neR {own : D → D → R Rv} {xs ys : List D} {Q : D → Bool → Prop} (e : xs = ys) (h : dok dep (.lst xs) = true) (k : Q (.bl false) false) : Wr (neD own (.lst xs) (.lst ys)) Q := by
  subst e
  refine w_ok (d := .bl false) (b := false) ?_ k
  show (if dok dep (.lst xs) && dok dep (.lst xs) then bl_ (!eqv (.lst xs) (.lst xs)) else do
    let r ← own (.lst xs) (.lst xs)
    let b ← isB r.1
    bl_ (!b)) = _
  rw [h, eqv_refl dep _ h]; rfl
/-! ### worths -/
def sumT (s : Nat → Int) (t : Nm) : Int := (t.map fun p => s p.1 * p.2).sum
theorem sum_canon (s f : Nat → Int) : sumT s (canon f) = ((List.range' 97 26).map fun c => s c * f c).sum := by
  unfold sumT canon
  generalize List.range' 97 26 = l
  induction l with
  | nil => rfl
  | cons c l ih =>
    rw [List.filterMap_cons, List.map_cons, List.sum_cons]
    by_cases q : f c = 0
    · rw [if_pos q, q, Int.mul_zero, Int.zero_add]; exact ih
    · rw [if_neg q]
      dsimp only
      rw [List.map_cons, List.sum_cons, ih]
theorem sumT_take {s : Nat → Int} {t : Nm} {k : Nat} {p : Nat × Int} (h : t[k]? = some p) : sumT s (t.take (k + 1)) = sumT s (t.take k) + s p.1 * p.2 := by
  unfold sumT
  have tk : t.take (k + 1) = t.take k ++ [p] := by rw [List.take_add_one, h]; rfl
  rw [tk, List.map_append, List.sum_append]
  simp
end DY

set_option Elab.async false
set_option linter.all false
set_option maxRecDepth 100000
set_option maxHeartbeats 4000000
namespace DY
noncomputable def mt__law_bag_1 : Sv :=
  (sAsg true 3 (eBin modD (eN intD [(eBin (addD no2) (eBin (addD no2) (eBin (mulD no2) (eVar 3) (eC (.int 27449))) (eBin modD (eN intD [(eVar 4)]) (eC (.int 1000081)))) (eBin (mulD no2) (eC (.int 13)) (eVar 1)))]) (eC (.int 2147483563))))
noncomputable def mt__law_bag_2 : Sv :=
  (sSeq (sAsg true 5 (eIf (eOr (eBin ltD (eVar 2) (eC (.int 0))) (eBin geD (eVar 2) (eBin powD (eC (.int 10)) (eC (.int 15))))) (eN absD [(eVar 2)]) (eC (.int 0))))
  (sRet (eN mkLst [(eVar 5), (eBin modD (eN intD [(eBin (addD no2) (eVar 3) (eBin (mulD no2) (eC (.int 39119)) (eBin modD (eN intD [(eVar 2)]) (eC (.int 999907)))))]) (eC (.int 2147483563))), (eC (.int 0))])))
noncomputable def mt__law_bag_3 : Sv :=
  (sSeq (sFor (iVal (eSlice (eVar 0) none (some (eC (.int 7))))) (gN 4) mt__law_bag_1)
  mt__law_bag_2)
noncomputable def mm__law_bag : Sv :=
  (sSeq (sPar true 2 3 (eIf (eBin ltD (eVar 1) (eBor1 (lenB no1) 0)) (eN intD [(eBor ixD 0 (eVar 1))]) (eC (.int 0))) (eBin (mulD no2) (eC (.int 50021)) (eBin (addD no2) (eVar 1) (eC (.int 7)))))
  mt__law_bag_3)
noncomputable def F__law_bag : Fn := shut (mkFn 6 2 mm__law_bag)
theorem q__law_bag : F__law_bag = mkFn 6 2 mm__law_bag := shut_eq _
theorem hl__law_bag : ∀ ds r, F__law_bag ds = .ok r → ds.length = 2 := by rw [q__law_bag]; exact mkFn_len
noncomputable def mm_are_small : Sv :=
  (sSeq (sIf (eOr (eNot (eN isiD [(eVar 0), (eC (.ty .str))])) (eNot (eChain leD leD (eVar 1) (eBor1 (lenB no1) 0) (eVar 2)))) (sRet (eC (.bl false))) sNext)
  (sRet (eN allD [(eLc (iVal (eVar 0)) (gN 3) none (eChain leD leD (eC (.str [97])) (eVar 3) (eC (.str [122]))) [3])])))
noncomputable def F_are_small : Fn := shut (mkFn 4 3 mm_are_small)
theorem q_are_small : F_are_small = mkFn 4 3 mm_are_small := shut_eq _
theorem hl_are_small : ∀ ds r, F_are_small ds = .ok r → ds.length = 3 := by rw [q_are_small]; exact mkFn_len
noncomputable def mm_is_integer : Sv :=
  (sRet (eAnd (eN isiD [(eVar 0), (eC (.ty .int))]) (eNot (eN isiD [(eVar 0), (eC (.ty .bool))]))))
noncomputable def F_is_integer : Fn := shut (mkFn 1 1 mm_is_integer)
theorem q_is_integer : F_is_integer = mkFn 1 1 mm_is_integer := shut_eq _
theorem hl_is_integer : ∀ ds r, F_is_integer ds = .ok r → ds.length = 1 := by rw [q_is_integer]; exact mkFn_len
noncomputable def mt_are_terms_1 : Sv :=
  (sSeq (sIf (eOr (eNot (eN F_is_integer [(eBor ixD 2 (eC (.int 1)))])) (eBin (eqD no2) (eBor ixD 2 (eC (.int 1))) (eC (.int 0)))) (sRet (eC (.bl false))) sNext)
  (sAsg true 1 (eBor ixD 2 (eC (.int 0)))))
noncomputable def mt_are_terms_2 : Sv :=
  (sSeq (sIf (eOr (eNot (eN isiD [(eVar 2), (eC (.ty .tuple))])) (eOr (eBin (neD no2) (eBor1 (lenB no1) 2) (eC (.int 2))) (eOr (eNot (eN F_are_small [(eBor ixD 2 (eC (.int 0))), (eC (.int 1)), (eC (.int 1))])) (eBin leD (eBor ixD 2 (eC (.int 0))) (eVar 1))))) (sRet (eC (.bl false))) sNext)
  mt_are_terms_1)
noncomputable def mt_are_terms_3 : Sv :=
  (sSeq (sFor (iVal (eVar 0)) (gN 2) mt_are_terms_2)
  (sRet (eC (.bl true))))
noncomputable def mt_are_terms_4 : Sv :=
  (sSeq (sAsg true 1 (eC (.str [])))
  mt_are_terms_3)
noncomputable def mm_are_terms : Sv :=
  (sSeq (sIf (eNot (eN isiD [(eVar 0), (eC (.ty .tuple))])) (sRet (eC (.bl false))) sNext)
  mt_are_terms_4)
noncomputable def F_are_terms : Fn := shut (mkFn 3 1 mm_are_terms)
theorem q_are_terms : F_are_terms = mkFn 3 1 mm_are_terms := shut_eq _
theorem hl_are_terms : ∀ ds r, F_are_terms ds = .ok r → ds.length = 1 := by rw [q_are_terms]; exact mkFn_len
noncomputable def mt_Form___init___1 : Sv :=
  (sSeq (sFld 1 1 (eVar 2))
  (sFld 1 2 (eBin joinB (eC (.str [])) (eLc (iVal (eVar 2)) (gN 3) none (eBor ixD 3 (eC (.int 0))) [3]))))
noncomputable def mt_Form___init___2 : Sv :=
  (sSeq (sFld 1 0 (eVar 1))
  mt_Form___init___1)
noncomputable def mt_Form___init___3 : Sv :=
  (sSeq (sIf (eNot (eN F_are_terms [(eVar 2)])) sNo sNext)
  mt_Form___init___2)
noncomputable def mm_Form___init__ : Sv :=
  (sSeq (sIf (eNot (eN F_is_integer [(eVar 1)])) sNo sNext)
  mt_Form___init___3)
noncomputable def F_Form___init__ : FnR := shut (mkFnR 4 3 0 mm_Form___init__)
theorem q_Form___init__ : F_Form___init__ = mkFnR 4 3 0 mm_Form___init__ := shut_eq _
theorem hi_Form___init__ : ∀ ds d r, F_Form___init__ ds d = .ok r → ds.length + 1 = 3 := by rw [q_Form___init__]; exact mkFnR_len
noncomputable def mm_form_of : Sv :=
  (sSeq (sAsg true 2 (eN sortedD [(eLc (iKeys 1) (gN 3) none (eN (strD no1) [(eVar 3)]) [3])]))
  (sRet (eN (fun xs => mkObj 1 F_Form___init__ (xs ++ [])) [(eVar 0), (eN tupleD [(eLc (iVal (eVar 2)) (gN 3) (some (eBin (neD no2) (eBor ixD 1 (eVar 3)) (eC (.int 0)))) (eN mkTup [(eVar 3), (eBor ixD 1 (eVar 3))]) [3])])])))
noncomputable def F_form_of : Fn := shut (mkFn 4 2 mm_form_of)
theorem q_form_of : F_form_of = mkFn 4 2 mm_form_of := shut_eq _
theorem hl_form_of : ∀ ds r, F_form_of ds = .ok r → ds.length = 2 := by rw [q_form_of]; exact mkFn_len
noncomputable def mt_Form___add___1 : Sv :=
  (sPut putM 2 (eVar 3) (eBin (addD no2) (eGetS dgetD 2 (eVar 3) (eC (.int 0))) (eVar 4)))
noncomputable def mt_Form___add___2 : Sv :=
  (sSeq (sFor (iVal (eUn (fldD 1 1) (eVar 1))) (gT [(gN 3), (gN 4)]) mt_Form___add___1)
  (sRet (eN F_form_of [(eBin (addD no2) (eUn (fldD 1 0) (eVar 0)) (eUn (fldD 1 0) (eVar 1))), (eVar 2)])))
noncomputable def mt_Form___add___3 : Sv :=
  (sSeq (sAsg true 2 (eN dictD [(eUn (fldD 1 1) (eVar 0))]))
  mt_Form___add___2)
noncomputable def mt_Form___add___4 : Sv :=
  (sSeq (sIf (eNot (eN isiD [(eVar 1), (eC (.cls 1))])) sNo sNext)
  mt_Form___add___3)
noncomputable def mm_Form___add__ : Sv :=
  (sSeq (sIf (eN F_is_integer [(eVar 1)]) (sRet (eN (fun xs => mkObj 1 F_Form___init__ (xs ++ [])) [(eBin (addD no2) (eUn (fldD 1 0) (eVar 0)) (eVar 1)), (eUn (fldD 1 1) (eVar 0))])) sNext)
  mt_Form___add___4)
noncomputable def F_Form___add__ : Fn := shut (mkFn 5 2 mm_Form___add__)
theorem q_Form___add__ : F_Form___add__ = mkFn 5 2 mm_Form___add__ := shut_eq _
theorem hl_Form___add__ : ∀ ds r, F_Form___add__ ds = .ok r → ds.length = 2 := by rw [q_Form___add__]; exact mkFn_len
noncomputable def mm_Form___eq__ : Sv :=
  (sRet (eAnd (eN isiD [(eVar 1), (eC (.cls 1))]) (eAnd (eBin (eqD no2) (eUn (fldD 1 0) (eVar 0)) (eUn (fldD 1 0) (eVar 1))) (eBin (eqD no2) (eUn (fldD 1 1) (eVar 0)) (eUn (fldD 1 1) (eVar 1))))))
noncomputable def F_Form___eq__ : Fn := shut (mkFn 2 2 mm_Form___eq__)
theorem q_Form___eq__ : F_Form___eq__ = mkFn 2 2 mm_Form___eq__ := shut_eq _
theorem hl_Form___eq__ : ∀ ds r, F_Form___eq__ ds = .ok r → ds.length = 2 := by rw [q_Form___eq__]; exact mkFn_len
noncomputable def mm_Form___mul__ : Sv :=
  (sSeq (sIf (eNot (eN F_is_integer [(eVar 1)])) sNo sNext)
  (sRet (eN F_form_of [(eBin (mulD no2) (eUn (fldD 1 0) (eVar 0)) (eVar 1)), (eDc (iVal (eUn (fldD 1 1) (eVar 0))) (gT [(gN 2), (gN 3)]) none (eVar 2) (eBin (mulD no2) (eVar 3) (eVar 1)) [2, 3])])))
noncomputable def F_Form___mul__ : Fn := shut (mkFn 4 2 mm_Form___mul__)
theorem q_Form___mul__ : F_Form___mul__ = mkFn 4 2 mm_Form___mul__ := shut_eq _
theorem hl_Form___mul__ : ∀ ds r, F_Form___mul__ ds = .ok r → ds.length = 2 := by rw [q_Form___mul__]; exact mkFn_len
noncomputable def mm_Form___neg__ : Sv :=
  (sRet (eBin (mulD (sel (ci 1) (fun x y => F_Form___mul__ [x, y]) no2)) (eVar 0) (eUn (negD no1) (eC (.int 1)))))
noncomputable def F_Form___neg__ : Fn := shut (mkFn 1 1 mm_Form___neg__)
theorem q_Form___neg__ : F_Form___neg__ = mkFn 1 1 mm_Form___neg__ := shut_eq _
theorem hl_Form___neg__ : ∀ ds r, F_Form___neg__ ds = .ok r → ds.length = 1 := by rw [q_Form___neg__]; exact mkFn_len
noncomputable def mt_Form___sub___1 : Sv :=
  (sSeq (sIf (eNot (eN isiD [(eVar 1), (eC (.cls 1))])) sNo sNext)
  (sRet (eBin (addD (sel (cc 1) (fun x y => F_Form___add__ [x, y]) no2)) (eVar 0) (eUn (negD (sel1 (isC 1) (fun x => F_Form___neg__ [x]) no1)) (eVar 1)))))
noncomputable def mm_Form___sub__ : Sv :=
  (sSeq (sIf (eN F_is_integer [(eVar 1)]) (sRet (eN (fun xs => mkObj 1 F_Form___init__ (xs ++ [])) [(eBin (subD no2) (eUn (fldD 1 0) (eVar 0)) (eVar 1)), (eUn (fldD 1 1) (eVar 0))])) sNext)
  mt_Form___sub___1)
noncomputable def F_Form___sub__ : Fn := shut (mkFn 2 2 mm_Form___sub__)
theorem q_Form___sub__ : F_Form___sub__ = mkFn 2 2 mm_Form___sub__ := shut_eq _
theorem hl_Form___sub__ : ∀ ds r, F_Form___sub__ ds = .ok r → ds.length = 2 := by rw [q_Form___sub__]; exact mkFn_len
noncomputable def mt_shared_factor_1 : Sv :=
  (sPar true 2 3 (eVar 3) (eBin modD (eVar 2) (eVar 3)))
noncomputable def mt_shared_factor_2 : Sv :=
  (sSeq (sWhile (eBin gtD (eVar 3) (eC (.int 0))) mt_shared_factor_1)
  (sRetV 2))
noncomputable def mm_shared_factor : Sv :=
  (sSeq (sPar true 2 3 (eN absD [(eVar 0)]) (eN absD [(eVar 1)]))
  mt_shared_factor_2)
noncomputable def F_shared_factor : Fn := shut (mkFn 4 2 mm_shared_factor)
theorem q_shared_factor : F_shared_factor = mkFn 4 2 mm_shared_factor := shut_eq _
theorem hl_shared_factor : ∀ ds r, F_shared_factor ds = .ok r → ds.length = 2 := by rw [q_shared_factor]; exact mkFn_len
noncomputable def mt_Ratio___init___1 : Sv :=
  (sSeq (sFld 0 0 (eBin fdivD (eVar 1) (eVar 3)))
  (sFld 0 1 (eBin fdivD (eVar 2) (eVar 3))))
noncomputable def mt_Ratio___init___2 : Sv :=
  (sSeq (sAsg true 3 (eN F_shared_factor [(eVar 1), (eVar 2)]))
  mt_Ratio___init___1)
noncomputable def mt_Ratio___init___3 : Sv :=
  (sSeq (sIf (eOr (eNot (eN F_is_integer [(eVar 2)])) (eBin ltD (eVar 2) (eC (.int 1)))) sNo sNext)
  mt_Ratio___init___2)
noncomputable def mm_Ratio___init__ : Sv :=
  (sSeq (sIf (eNot (eN F_is_integer [(eVar 1)])) sNo sNext)
  mt_Ratio___init___3)
noncomputable def F_Ratio___init__ : FnR := shut (mkFnR 4 3 0 mm_Ratio___init__)
theorem q_Ratio___init__ : F_Ratio___init__ = mkFnR 4 3 0 mm_Ratio___init__ := shut_eq _
theorem hi_Ratio___init__ : ∀ ds d r, F_Ratio___init__ ds d = .ok r → ds.length + 1 = 3 := by rw [q_Ratio___init__]; exact mkFnR_len
noncomputable def mm_as_ratio : Sv :=
  (sRet (eIf (eN isiD [(eVar 0), (eC (.cls 0))]) (eVar 0) (eN (fun xs => mkObj 0 F_Ratio___init__ (xs ++ [.int 1])) [(eVar 0)])))
noncomputable def F_as_ratio : Fn := shut (mkFn 1 1 mm_as_ratio)
theorem q_as_ratio : F_as_ratio = mkFn 1 1 mm_as_ratio := shut_eq _
theorem hl_as_ratio : ∀ ds r, F_as_ratio ds = .ok r → ds.length = 1 := by rw [q_as_ratio]; exact mkFn_len
noncomputable def mt_compared_1 : Sv :=
  (sSeq (sIf (eBin (eqD no2) (eVar 2) (eVar 3)) (sRet (eC (.int 0))) sNext)
  (sRet (eIf (eBin ltD (eVar 2) (eVar 3)) (eUn (negD no1) (eC (.int 1))) (eC (.int 1)))))
noncomputable def mm_compared : Sv :=
  (sSeq (sPar true 2 3 (eBin (mulD no2) (eUn (fldD 0 0) (eVar 0)) (eUn (fldD 0 1) (eVar 1))) (eBin (mulD no2) (eUn (fldD 0 0) (eVar 1)) (eUn (fldD 0 1) (eVar 0))))
  mt_compared_1)
noncomputable def F_compared : Fn := shut (mkFn 4 2 mm_compared)
theorem q_compared : F_compared = mkFn 4 2 mm_compared := shut_eq _
theorem hl_compared : ∀ ds r, F_compared ds = .ok r → ds.length = 2 := by rw [q_compared]; exact mkFn_len
noncomputable def mm_is_above : Sv :=
  (sRet (eBin gtD (eN F_compared [(eN F_as_ratio [(eVar 0)]), (eN F_as_ratio [(eVar 1)])]) (eC (.int 0))))
noncomputable def F_is_above : Fn := shut (mkFn 2 2 mm_is_above)
theorem q_is_above : F_is_above = mkFn 2 2 mm_is_above := shut_eq _
theorem hl_is_above : ∀ ds r, F_is_above ds = .ok r → ds.length = 2 := by rw [q_is_above]; exact mkFn_len
noncomputable def mm_is_fraction : Sv :=
  (sRet (eOr (eN F_is_integer [(eVar 0)]) (eN isiD [(eVar 0), (eC (.cls 0))])))
noncomputable def F_is_fraction : Fn := shut (mkFn 1 1 mm_is_fraction)
theorem q_is_fraction : F_is_fraction = mkFn 1 1 mm_is_fraction := shut_eq _
theorem hl_is_fraction : ∀ ds r, F_is_fraction ds = .ok r → ds.length = 1 := by rw [q_is_fraction]; exact mkFn_len
noncomputable def mm_are_lengths : Sv :=
  (sSeq (sIf (eNot (eN isiD [(eVar 0), (eC (.ty .dict))])) (sRet (eC (.bl false))) sNext)
  (sRet (eN allD [(eLc (iKeys 0) (gN 1) none (eAnd (eN F_are_small [(eVar 1), (eC (.int 1)), (eC (.int 1))]) (eAnd (eN F_is_fraction [(eBor ixD 0 (eVar 1))]) (eNot (eN F_is_above [(eC (.int 0)), (eBor ixD 0 (eVar 1))])))) [1])])))
noncomputable def F_are_lengths : Fn := shut (mkFn 2 1 mm_are_lengths)
theorem q_are_lengths : F_are_lengths = mkFn 2 1 mm_are_lengths := shut_eq _
theorem hl_are_lengths : ∀ ds r, F_are_lengths ds = .ok r → ds.length = 1 := by rw [q_are_lengths]; exact mkFn_len
noncomputable def mt_Ratio___add___1 : Sv :=
  (sSeq (sAsg true 2 (eN F_as_ratio [(eVar 1)]))
  (sRet (eN (fun xs => mkObj 0 F_Ratio___init__ (xs ++ [])) [(eBin (addD no2) (eBin (mulD no2) (eUn (fldD 0 0) (eVar 0)) (eUn (fldD 0 1) (eVar 2))) (eBin (mulD no2) (eUn (fldD 0 0) (eVar 2)) (eUn (fldD 0 1) (eVar 0)))), (eBin (mulD no2) (eUn (fldD 0 1) (eVar 0)) (eUn (fldD 0 1) (eVar 2)))])))
noncomputable def mm_Ratio___add__ : Sv :=
  (sSeq (sIf (eNot (eN F_is_fraction [(eVar 1)])) sNo sNext)
  mt_Ratio___add___1)
noncomputable def F_Ratio___add__ : Fn := shut (mkFn 3 2 mm_Ratio___add__)
theorem q_Ratio___add__ : F_Ratio___add__ = mkFn 3 2 mm_Ratio___add__ := shut_eq _
theorem hl_Ratio___add__ : ∀ ds r, F_Ratio___add__ ds = .ok r → ds.length = 2 := by rw [q_Ratio___add__]; exact mkFn_len
noncomputable def mt_Ratio___mul___1 : Sv :=
  (sSeq (sAsg true 2 (eN F_as_ratio [(eVar 1)]))
  (sRet (eN (fun xs => mkObj 0 F_Ratio___init__ (xs ++ [])) [(eBin (mulD no2) (eUn (fldD 0 0) (eVar 0)) (eUn (fldD 0 0) (eVar 2))), (eBin (mulD no2) (eUn (fldD 0 1) (eVar 0)) (eUn (fldD 0 1) (eVar 2)))])))
noncomputable def mm_Ratio___mul__ : Sv :=
  (sSeq (sIf (eNot (eN F_is_fraction [(eVar 1)])) sNo sNext)
  mt_Ratio___mul___1)
noncomputable def F_Ratio___mul__ : Fn := shut (mkFn 3 2 mm_Ratio___mul__)
theorem q_Ratio___mul__ : F_Ratio___mul__ = mkFn 3 2 mm_Ratio___mul__ := shut_eq _
theorem hl_Ratio___mul__ : ∀ ds r, F_Ratio___mul__ ds = .ok r → ds.length = 2 := by rw [q_Ratio___mul__]; exact mkFn_len
noncomputable def mm_Ratio___rmul__ : Sv :=
  (sSeq (sIf (eNot (eN F_is_fraction [(eVar 1)])) sNo sNext)
  (sRet (eBin (mulD (sel (cc 0) (fun x y => F_Ratio___mul__ [x, y]) no2)) (eN F_as_ratio [(eVar 1)]) (eVar 0))))
noncomputable def F_Ratio___rmul__ : Fn := shut (mkFn 2 2 mm_Ratio___rmul__)
theorem q_Ratio___rmul__ : F_Ratio___rmul__ = mkFn 2 2 mm_Ratio___rmul__ := shut_eq _
theorem hl_Ratio___rmul__ : ∀ ds r, F_Ratio___rmul__ ds = .ok r → ds.length = 2 := by rw [q_Ratio___rmul__]; exact mkFn_len
noncomputable def mt_worth_1 : Sv :=
  (sAsg true 2 (eBin (addD (sel (cc 0) (fun x y => F_Ratio___add__ [x, y]) no2)) (eVar 2) (eBin (mulD (sel (ci 0) (fun x y => F_Ratio___mul__ [x, y]) no2)) (eN F_as_ratio [(eBor ixD 1 (eVar 3))]) (eVar 4))))
noncomputable def mt_worth_2 : Sv :=
  (sSeq (sFor (iVal (eUn (fldD 1 1) (eVar 0))) (gT [(gN 3), (gN 4)]) mt_worth_1)
  (sRetV 2))
noncomputable def mm_worth : Sv :=
  (sSeq (sAsg true 2 (eN (fun xs => mkObj 0 F_Ratio___init__ (xs ++ [.int 1])) [(eUn (fldD 1 0) (eVar 0))]))
  mt_worth_2)
noncomputable def F_worth : Fn := shut (mkFn 5 2 mm_worth)
theorem q_worth : F_worth = mkFn 5 2 mm_worth := shut_eq _
theorem hl_worth : ∀ ds r, F_worth ds = .ok r → ds.length = 2 := by rw [q_worth]; exact mkFn_len
noncomputable def mm_Form_at : Sv :=
  (sSeq (sIf (eOr (eNot (eN F_are_lengths [(eVar 1)])) (eNot (eN allD [(eLc (iVal (eUn (fldD 1 2) (eVar 0))) (gN 2) none (eBorR inD (eVar 2) 1) [2])]))) sNo sNext)
  (sRet (eN F_worth [(eVar 0), (eVar 1)])))
noncomputable def F_Form_at : Fn := shut (mkFn 3 2 mm_Form_at)
theorem q_Form_at : F_Form_at = mkFn 3 2 mm_Form_at := shut_eq _
theorem hl_Form_at : ∀ ds r, F_Form_at ds = .ok r → ds.length = 2 := by rw [q_Form_at]; exact mkFn_len
noncomputable def mt_Ratio___eq___1 : Sv :=
  (sSeq (sAsg true 2 (eN F_as_ratio [(eVar 1)]))
  (sRet (eAnd (eBin (eqD no2) (eUn (fldD 0 0) (eVar 0)) (eUn (fldD 0 0) (eVar 2))) (eBin (eqD no2) (eUn (fldD 0 1) (eVar 0)) (eUn (fldD 0 1) (eVar 2))))))
noncomputable def mm_Ratio___eq__ : Sv :=
  (sSeq (sIf (eNot (eN F_is_fraction [(eVar 1)])) (sRet (eC (.bl false))) sNext)
  mt_Ratio___eq___1)
noncomputable def F_Ratio___eq__ : Fn := shut (mkFn 3 2 mm_Ratio___eq__)
theorem q_Ratio___eq__ : F_Ratio___eq__ = mkFn 3 2 mm_Ratio___eq__ := shut_eq _
theorem hl_Ratio___eq__ : ∀ ds r, F_Ratio___eq__ ds = .ok r → ds.length = 2 := by rw [q_Ratio___eq__]; exact mkFn_len
noncomputable def mt__law_added_1 : Sv :=
  (sPut putM 3 (eVar 4) (eBin (addD no2) (eGetS dgetD 3 (eVar 4) (eC (.int 0))) (eBin (mulD no2) (eVar 2) (eBor ixD 1 (eVar 4)))))
noncomputable def mt__law_added_2 : Sv :=
  (sSeq (sFor (iKeys 1) (gN 4) mt__law_added_1)
  (sRetV 3))
noncomputable def mm__law_added : Sv :=
  (sSeq (sAsg true 3 (eN dictD [(eVar 0)]))
  mt__law_added_2)
noncomputable def F__law_added : Fn := shut (mkFn 5 3 mm__law_added)
theorem q__law_added : F__law_added = mkFn 5 3 mm__law_added := shut_eq _
theorem hl__law_added : ∀ ds r, F__law_added ds = .ok r → ds.length = 3 := by rw [q__law_added]; exact mkFn_len
noncomputable def mt__law_draw_1 : Sv :=
  (sSeq (sPut putM 0 (eC (.int 0)) (eBin fdivD (eBor ixD 0 (eC (.int 0))) (eVar 1)))
  (sRetV 2))
noncomputable def mt__law_draw_2 : Sv :=
  (sSeq (sPut putM 0 (eC (.int 1)) (eBin modD (eN intD [(eBin (addD no2) (eBin (addD no2) (eBin (mulD no2) (eVar 3) (eVar 4)) (eBin (mulD no2) (eC (.int 11)) (eBor ixD 0 (eC (.int 2))))) (eC (.int 17)))]) (eC (.int 2147483563))))
  (sRet (eBin modD (eBin fdivD (eN intD [(eBor ixD 0 (eC (.int 1)))]) (eC (.int 523))) (eVar 1))))
noncomputable def mt__law_draw_3 : Sv :=
  (sSeq (sAsg true 4 (eBin (addD no2) (eBin modD (eN intD [(eVar 3)]) (eC (.int 59951))) (eC (.int 40031))))
  mt__law_draw_2)
noncomputable def mt__law_draw_4 : Sv :=
  (sSeq (sAsg true 3 (eBin (addD no2) (eN intD [(eBor ixD 0 (eC (.int 1)))]) (eBin (mulD no2) (eC (.int 104593)) (eBor ixD 0 (eC (.int 2))))))
  mt__law_draw_3)
noncomputable def mt__law_draw_5 : Sv :=
  (sSeq (sIf (eBin gtD (eBor ixD 0 (eC (.int 0))) (eC (.int 0))) (sSeq (sAsg true 2 (eBin modD (eN intD [(eBor ixD 0 (eC (.int 0)))]) (eVar 1)))
  mt__law_draw_1) sNext)
  mt__law_draw_4)
noncomputable def mm__law_draw : Sv :=
  (sSeq (sPut putM 0 (eC (.int 2)) (eBin (addD no2) (eBor ixD 0 (eC (.int 2))) (eC (.int 1))))
  mt__law_draw_5)
noncomputable def F__law_draw : FnR := shut (mkFnR 5 2 0 mm__law_draw)
theorem q__law_draw : F__law_draw = mkFnR 5 2 0 mm__law_draw := shut_eq _
theorem hi__law_draw : ∀ ds d r, F__law_draw ds d = .ok r → ds.length + 1 = 2 := by rw [q__law_draw]; exact mkFnR_len
noncomputable def mm__law_one : Sv :=
  (sRet (eBor ixD 1 (eCallR F__law_draw [] 0 [(eBor1 (lenB no1) 1)])))
noncomputable def F__law_one : FnR := shut (mkFnR 2 2 0 mm__law_one)
theorem q__law_one : F__law_one = mkFnR 2 2 0 mm__law_one := shut_eq _
theorem hi__law_one : ∀ ds d r, F__law_one ds d = .ok r → ds.length + 1 = 2 := by rw [q__law_one]; exact mkFnR_len
noncomputable def mt__law_drawn_1 : Sv :=
  (sSeq (sAsg true 3 (eBin (addD no2) (eC (.int 1)) (eCallR F__law_one [] 0 [(eN mkLst [(eC (.int 0)), (eC (.int 1)), (eCallR F__law_draw [] 0 [(eC (.int 9))]), (eCallR F__law_draw [] 0 [(eBin powD (eC (.int 10)) (eC (.int 12)))])])])))
  (sPut putM 1 (eCallR F__law_one [] 0 [(eC (.str [97, 98, 99, 120, 121, 122]))]) (eBin (mulD no2) (eVar 3) (eCallR F__law_one [] 0 [(eN mkLst [(eC (.int 1)), (eBin (subD no2) (eC (.int 0)) (eC (.int 1)))])]))))
noncomputable def mt__law_drawn_2 : Sv :=
  (sSeq (sFor (iRange [(eCallR F__law_draw [] 0 [(eC (.int 6))])]) (gN 2) mt__law_drawn_1)
  (sRet (eN mkTup [(eCallR F__law_one [] 0 [(eN mkLst [(eC (.int 0)), (eC (.int 5)), (eBin (subD no2) (eC (.int 0)) (eC (.int 7))), (eCallR F__law_draw [] 0 [(eBin powD (eC (.int 10)) (eC (.int 12)))])])]), (eVar 1)])))
noncomputable def mm__law_drawn : Sv :=
  (sSeq (sAsg true 1 (eC0 (.dic [])))
  mt__law_drawn_2)
noncomputable def F__law_drawn : FnR := shut (mkFnR 4 1 0 mm__law_drawn)
theorem q__law_drawn : F__law_drawn = mkFnR 4 1 0 mm__law_drawn := shut_eq _
theorem hi__law_drawn : ∀ ds d r, F__law_drawn ds d = .ok r → ds.length + 1 = 1 := by rw [q__law_drawn]; exact mkFnR_len
noncomputable def mm__law_pairs : Sv :=
  (sRet (eN tupleD [(eLc (iVal (eN sortedD [(eN listD [(eVar 0)])])) (gN 1) (some (eBin (neD no2) (eBor ixD 0 (eVar 1)) (eC (.int 0)))) (eN mkTup [(eVar 1), (eBor ixD 0 (eVar 1))]) [1])]))
noncomputable def F__law_pairs : Fn := shut (mkFn 2 1 mm__law_pairs)
theorem q__law_pairs : F__law_pairs = mkFn 2 1 mm__law_pairs := shut_eq _
theorem hl__law_pairs : ∀ ds r, F__law_pairs ds = .ok r → ds.length = 1 := by rw [q__law_pairs]; exact mkFn_len
noncomputable def mm__law_due : Sv :=
  (sSeq (sAsg true 2 (eN F__law_pairs [(eVar 1)]))
  (sRet (eN mkLst [(eVar 0), (eVar 2), (eBin joinB (eC (.str [])) (eLc (iVal (eVar 2)) (gN 3) none (eBor ixD 3 (eC (.int 0))) [3]))])))
noncomputable def F__law_due : Fn := shut (mkFn 4 2 mm__law_due)
theorem q__law_due : F__law_due = mkFn 4 2 mm__law_due := shut_eq _
theorem hl__law_due : ∀ ds r, F__law_due ds = .ok r → ds.length = 2 := by rw [q__law_due]; exact mkFn_len
noncomputable def mm__law_shown : Sv :=
  (sRet (eN mkLst [(eUn (fldD 1 0) (eVar 0)), (eUn (fldD 1 1) (eVar 0)), (eUn (fldD 1 2) (eVar 0))]))
noncomputable def F__law_shown : Fn := shut (mkFn 1 1 mm__law_shown)
theorem q__law_shown : F__law_shown = mkFn 1 1 mm__law_shown := shut_eq _
theorem hl__law_shown : ∀ ds r, F__law_shown ds = .ok r → ds.length = 1 := by rw [q__law_shown]; exact mkFn_len
noncomputable def mt__law_right_1 : Sv :=
  (sSeq (sPut putM 11 (eVar 8) (eIf (eBin (eqD (sel (cany 1) (fun x y => F_Form___eq__ [x, y]) (sel (cany 0) (fun x y => F_Ratio___eq__ [x, y]) no2))) (eBin modD (eN intD [(eVar 13)]) (eC (.int 6))) (eC (.int 0))) (eBin fdivD (eVar 13) (eC (.int 6))) (eN (fun xs => mkObj 0 F_Ratio___init__ (xs ++ [])) [(eVar 13), (eC (.int 6))])))
  (sAsg true 12 (eBin (addD (sel (cc 1) (fun x y => F_Form___add__ [x, y]) (sel (ci 1) (fun x y => F_Form___add__ [x, y]) no2))) (eVar 12) (eBin (mulD (sel (ci 1) (fun x y => F_Form___mul__ [x, y]) no2)) (eVar 13) (eGet dgetD (eBor ixD 2 (eC (.int 1))) (eVar 8) (eC (.int 0)))))))
noncomputable def mt__law_right_2 : Sv :=
  (sSeq (sAsg true 13 (eCallR F__law_one [] 0 [(eN mkLst [(eC (.int 0)), (eC (.int 6)), (eCallR F__law_draw [] 0 [(eC (.int 500))])])]))
  mt__law_right_1)
noncomputable def mt__law_right_3 : Sv :=
  (sSeq (sFor (iVal (eC (.str [97, 98, 99, 120, 121, 122]))) (gN 8) mt__law_right_2)
  (sIf (eOr (eBin (neD (sel (cany 1) (fun x y => F_Form___eq__ [x, y]) (sel (cany 0) (fun x y => F_Ratio___eq__ [x, y]) no2))) (eMeth 1 F_Form_at (eVar 5) [(eVar 11)]) (eN (fun xs => mkObj 0 F_Ratio___init__ (xs ++ [])) [(eVar 12), (eC (.int 6))])) (eBin (neD (sel (cany 1) (fun x y => F_Form___eq__ [x, y]) (sel (cany 0) (fun x y => F_Ratio___eq__ [x, y]) no2))) (eMethK 1 F_Form_at (prm [0]) (eVar 5) [] [(eVar 11)]) (eN (fun xs => mkObj 0 F_Ratio___init__ (xs ++ [])) [(eVar 12), (eC (.int 6))]))) (sRet (eC (.bl false))) sNext))
noncomputable def mt__law_right_4 : Sv :=
  (sSeq (sPar true 11 12 (eC0 (.dic [])) (eBin (mulD (sel (ci 1) (fun x y => F_Form___mul__ [x, y]) no2)) (eC (.int 6)) (eBor ixD 2 (eC (.int 0)))))
  mt__law_right_3)
noncomputable def mt__law_right_5 : Sv :=
  (sSeq (sIf (eOr (eBin (neD (sel (cany 1) (fun x y => F_Form___eq__ [x, y]) (sel (cany 0) (fun x y => F_Ratio___eq__ [x, y]) no2))) (eBin (eqD (sel (cany 1) (fun x y => F_Form___eq__ [x, y]) (sel (cany 0) (fun x y => F_Ratio___eq__ [x, y]) no2))) (eVar 5) (eVar 6)) (eVar 10)) (eBin (eqD (sel (cany 1) (fun x y => F_Form___eq__ [x, y]) (sel (cany 0) (fun x y => F_Ratio___eq__ [x, y]) no2))) (eVar 5) (eBor ixD 2 (eC (.int 0))))) (sRet (eC (.bl false))) sNext)
  mt__law_right_4)
noncomputable def mt__law_right_6 : Sv :=
  (sSeq (sAsg true 10 (eBin (eqD (sel (cany 1) (fun x y => F_Form___eq__ [x, y]) (sel (cany 0) (fun x y => F_Ratio___eq__ [x, y]) no2))) (eN F__law_due [(eBor ixD 2 (eC (.int 0))), (eBor ixD 2 (eC (.int 1)))]) (eN F__law_due [(eBor ixD 3 (eC (.int 0))), (eBor ixD 3 (eC (.int 1)))])))
  mt__law_right_5)
noncomputable def mt__law_right_7 : Sv :=
  (sSeq (sIf (eBin (neD (sel (cany 1) (fun x y => F_Form___eq__ [x, y]) (sel (cany 0) (fun x y => F_Ratio___eq__ [x, y]) no2))) (eVar 7) (eBin (addD (sel (cc 1) (fun x y => F_Form___add__ [x, y]) (sel (ci 1) (fun x y => F_Form___add__ [x, y]) no2))) (eVar 9) (eN mkLst [(eN F__law_due [(eBin (addD (sel (cc 1) (fun x y => F_Form___add__ [x, y]) (sel (ci 1) (fun x y => F_Form___add__ [x, y]) no2))) (eBor ixD 2 (eC (.int 0))) (eVar 4)), (eBor ixD 2 (eC (.int 1)))]), (eN F__law_due [(eBin (subD (sel (cc 1) (fun x y => F_Form___sub__ [x, y]) (sel (ci 1) (fun x y => F_Form___sub__ [x, y]) no2))) (eBor ixD 2 (eC (.int 0))) (eVar 4)), (eBor ixD 2 (eC (.int 1)))])]))) (sRet (eC (.bl false))) sNext)
  mt__law_right_6)
noncomputable def mt__law_right_8 : Sv :=
  (sSeq (sExpr (eMut appendM 9 [(eN F__law_due [(eBin (subD (sel (cc 1) (fun x y => F_Form___sub__ [x, y]) (sel (ci 1) (fun x y => F_Form___sub__ [x, y]) no2))) (eC (.int 0)) (eBor ixD 2 (eC (.int 0)))), (eN F__law_added [(eC0 (.dic [])), (eBor ixD 2 (eC (.int 1))), (eBin (subD (sel (cc 1) (fun x y => F_Form___sub__ [x, y]) (sel (ci 1) (fun x y => F_Form___sub__ [x, y]) no2))) (eC (.int 0)) (eC (.int 1)))])])]))
  mt__law_right_7)
noncomputable def mt__law_right_9 : Sv :=
  (sSeq (sExpr (eMut appendM 9 [(eN F__law_due [(eBin (mulD (sel (ci 1) (fun x y => F_Form___mul__ [x, y]) no2)) (eBor ixD 2 (eC (.int 0))) (eVar 4)), (eN F__law_added [(eC0 (.dic [])), (eBor ixD 2 (eC (.int 1))), (eVar 4)])])]))
  mt__law_right_8)
noncomputable def mt__law_right_10 : Sv :=
  (sSeq (sAsg true 9 (eBin (addD (sel (cc 1) (fun x y => F_Form___add__ [x, y]) (sel (ci 1) (fun x y => F_Form___add__ [x, y]) no2))) (eVar 9) (eN mkLst [(eN F__law_due [(eBin (subD (sel (cc 1) (fun x y => F_Form___sub__ [x, y]) (sel (ci 1) (fun x y => F_Form___sub__ [x, y]) no2))) (eBor ixD 2 (eC (.int 0))) (eBor ixD 3 (eC (.int 0)))), (eN F__law_added [(eBor ixD 2 (eC (.int 1))), (eBor ixD 3 (eC (.int 1))), (eBin (subD (sel (cc 1) (fun x y => F_Form___sub__ [x, y]) (sel (ci 1) (fun x y => F_Form___sub__ [x, y]) no2))) (eC (.int 0)) (eC (.int 1)))])])])))
  mt__law_right_9)
noncomputable def mt__law_right_11 : Sv :=
  (sSeq (sExpr (eMut appendM 9 [(eN F__law_due [(eBin (addD (sel (cc 1) (fun x y => F_Form___add__ [x, y]) (sel (ci 1) (fun x y => F_Form___add__ [x, y]) no2))) (eBor ixD 2 (eC (.int 0))) (eBor ixD 3 (eC (.int 0)))), (eN F__law_added [(eBor ixD 2 (eC (.int 1))), (eBor ixD 3 (eC (.int 1))), (eC (.int 1))])])]))
  mt__law_right_10)
noncomputable def mt__law_right_12 : Sv :=
  (sSeq (sAsg true 9 (eN mkLst [(eN F__law_due [(eBor ixD 2 (eC (.int 0))), (eBor ixD 2 (eC (.int 1)))])]))
  mt__law_right_11)
noncomputable def mt__law_right_13 : Sv :=
  (sSeq (sAsg true 7 (eBin (addD (sel (cc 1) (fun x y => F_Form___add__ [x, y]) (sel (ci 1) (fun x y => F_Form___add__ [x, y]) no2))) (eVar 7) (eLc (iVal (eN mkLst [(eUn (negD (sel1 (isC 1) (fun x => F_Form___neg__ [x]) no1)) (eVar 5)), (eBin (addD (sel (cc 1) (fun x y => F_Form___add__ [x, y]) (sel (ci 1) (fun x y => F_Form___add__ [x, y]) no2))) (eVar 5) (eVar 4)), (eBin (subD (sel (cc 1) (fun x y => F_Form___sub__ [x, y]) (sel (ci 1) (fun x y => F_Form___sub__ [x, y]) no2))) (eVar 5) (eVar 4))])) (gN 8) none (eN F__law_shown [(eVar 8)]) [8])))
  mt__law_right_12)
noncomputable def mt__law_right_14 : Sv :=
  (sSeq (sAsg true 7 (eLc (iVal (eN mkLst [(eVar 5), (eBin (addD (sel (cc 1) (fun x y => F_Form___add__ [x, y]) (sel (ci 1) (fun x y => F_Form___add__ [x, y]) no2))) (eVar 5) (eVar 6)), (eBin (subD (sel (cc 1) (fun x y => F_Form___sub__ [x, y]) (sel (ci 1) (fun x y => F_Form___sub__ [x, y]) no2))) (eVar 5) (eVar 6)), (eBin (mulD (sel (ci 1) (fun x y => F_Form___mul__ [x, y]) no2)) (eVar 5) (eVar 4))])) (gN 8) none (eN F__law_shown [(eVar 8)]) [8]))
  mt__law_right_13)
noncomputable def mt__law_right_15 : Sv :=
  (sSeq (sPar true 5 6 (eN (fun xs => mkObj 1 F_Form___init__ (xs ++ [])) [(eBor ixD 2 (eC (.int 0))), (eN F__law_pairs [(eBor ixD 2 (eC (.int 1)))])]) (eNK (mkObj 1 F_Form___init__) (prm [1, 0]) [] [(eN F__law_pairs [(eBor ixD 3 (eC (.int 1)))]), (eBor ixD 3 (eC (.int 0)))]))
  mt__law_right_14)
noncomputable def mt__law_right_16 : Sv :=
  (sSeq (sIf (eBin (eqD (sel (cany 1) (fun x y => F_Form___eq__ [x, y]) (sel (cany 0) (fun x y => F_Ratio___eq__ [x, y]) no2))) (eCallR F__law_draw [] 0 [(eC (.int 3))]) (eC (.int 0))) (sAsg true 3 (eN mkTup [(eBor ixD 3 (eC (.int 0))), (eN F__law_added [(eC0 (.dic [])), (eBor ixD 2 (eC (.int 1))), (eBin (subD (sel (cc 1) (fun x y => F_Form___sub__ [x, y]) (sel (ci 1) (fun x y => F_Form___sub__ [x, y]) no2))) (eC (.int 0)) (eC (.int 1)))])])) sNext)
  mt__law_right_15)
noncomputable def mt__law_right_17 : Sv :=
  (sSeq (sAsg true 4 (eCallR F__law_one [] 0 [(eN mkLst [(eC (.int 0)), (eC (.int 1)), (eBin (subD (sel (cc 1) (fun x y => F_Form___sub__ [x, y]) (sel (ci 1) (fun x y => F_Form___sub__ [x, y]) no2))) (eC (.int 0)) (eC (.int 1))), (eC (.int 3)), (eBin (subD (sel (cc 1) (fun x y => F_Form___sub__ [x, y]) (sel (ci 1) (fun x y => F_Form___sub__ [x, y]) no2))) (eC (.int 0)) (eBin powD (eC (.int 10)) (eC (.int 6))))])]))
  mt__law_right_16)
noncomputable def mt__law_right_18 : Sv :=
  (sSeq (sPar true 2 3 (eCallR F__law_drawn [] 0 []) (eCallR F__law_drawn [] 0 []))
  mt__law_right_17)
noncomputable def mm__law_right : Sv :=
  (sSeq (sFor (iRange [(eC (.int 5))]) (gN 1) mt__law_right_18)
  (sRet (eAnd (eBin (eqD (sel (cany 1) (fun x y => F_Form___eq__ [x, y]) (sel (cany 0) (fun x y => F_Ratio___eq__ [x, y]) no2))) (eN (fun xs => mkObj 1 F_Form___init__ (xs ++ [.int 0, .tup []])) []) (eN (fun xs => mkObj 1 F_Form___init__ (xs ++ [])) [(eC (.int 0)), (eN mkTup [])])) (eAnd (eBin (neD (sel (cany 1) (fun x y => F_Form___eq__ [x, y]) (sel (cany 0) (fun x y => F_Ratio___eq__ [x, y]) no2))) (eN (fun xs => mkObj 1 F_Form___init__ (xs ++ [.tup []])) [(eC (.int 3))]) (eN (fun xs => mkObj 1 F_Form___init__ (xs ++ [.tup []])) [(eC (.int 4))])) (eNot (eBin (eqD (sel (cany 1) (fun x y => F_Form___eq__ [x, y]) (sel (cany 0) (fun x y => F_Ratio___eq__ [x, y]) no2))) (eN (fun xs => mkObj 1 F_Form___init__ (xs ++ [.tup []])) [(eC (.int 2))]) (eC (.int 2))))))))
noncomputable def F__law_right : FnR := shut (mkFnR 14 1 0 mm__law_right)
theorem q__law_right : F__law_right = mkFnR 14 1 0 mm__law_right := shut_eq _
theorem hi__law_right : ∀ ds d r, F__law_right ds d = .ok r → ds.length + 1 = 1 := by rw [q__law_right]; exact mkFnR_len
noncomputable def mm_law : Sv :=
  (sRet (eN allD [(eLc (iRange [(eN maxD [(eC (.int 2)), (eN minD [(eBor1 (lenB no1) 0), (eC (.int 6))])])]) (gN 1) none (eCallT F__law_right [] (eN F__law_bag [(eVar 0), (eVar 1)])) [1])]))
noncomputable def F_law : Fn := shut (mkFn 2 1 mm_law)
theorem q_law : F_law = mkFn 2 1 mm_law := shut_eq _
theorem hl_law : ∀ ds r, F_law ds = .ok r → ds.length = 1 := by rw [q_law]; exact mkFn_len
end DY

set_option Elab.async false
set_option linter.all false
set_option maxRecDepth 100000
set_option maxHeartbeats 4000000
namespace DY
theorem u_mt__law_bag_1 {ρ : Env} : mt__law_bag_1 ρ = (sAsg true 3 (eBin modD (eN intD [(eBin (addD no2) (eBin (addD no2) (eBin (mulD no2) (eVar 3) (eC (.int 27449))) (eBin modD (eN intD [(eVar 4)]) (eC (.int 1000081)))) (eBin (mulD no2) (eC (.int 13)) (eVar 1)))]) (eC (.int 2147483563)))) ρ := rfl
theorem u_mt__law_bag_2 {ρ : Env} : mt__law_bag_2 ρ = (sSeq (sAsg true 5 (eIf (eOr (eBin ltD (eVar 2) (eC (.int 0))) (eBin geD (eVar 2) (eBin powD (eC (.int 10)) (eC (.int 15))))) (eN absD [(eVar 2)]) (eC (.int 0)))) (sRet (eN mkLst [(eVar 5), (eBin modD (eN intD [(eBin (addD no2) (eVar 3) (eBin (mulD no2) (eC (.int 39119)) (eBin modD (eN intD [(eVar 2)]) (eC (.int 999907)))))]) (eC (.int 2147483563))), (eC (.int 0))]))) ρ := rfl
theorem u_mt__law_bag_3 {ρ : Env} : mt__law_bag_3 ρ = (sSeq (sFor (iVal (eSlice (eVar 0) none (some (eC (.int 7))))) (gN 4) mt__law_bag_1) mt__law_bag_2) ρ := rfl
theorem u_mm__law_bag {ρ : Env} : mm__law_bag ρ = (sSeq (sPar true 2 3 (eIf (eBin ltD (eVar 1) (eBor1 (lenB no1) 0)) (eN intD [(eBor ixD 0 (eVar 1))]) (eC (.int 0))) (eBin (mulD no2) (eC (.int 50021)) (eBin (addD no2) (eVar 1) (eC (.int 7))))) mt__law_bag_3) ρ := rfl
theorem u_mm_are_small {ρ : Env} : mm_are_small ρ = (sSeq (sIf (eOr (eNot (eN isiD [(eVar 0), (eC (.ty .str))])) (eNot (eChain leD leD (eVar 1) (eBor1 (lenB no1) 0) (eVar 2)))) (sRet (eC (.bl false))) sNext) (sRet (eN allD [(eLc (iVal (eVar 0)) (gN 3) none (eChain leD leD (eC (.str [97])) (eVar 3) (eC (.str [122]))) [3])]))) ρ := rfl
theorem u_mm_is_integer {ρ : Env} : mm_is_integer ρ = (sRet (eAnd (eN isiD [(eVar 0), (eC (.ty .int))]) (eNot (eN isiD [(eVar 0), (eC (.ty .bool))])))) ρ := rfl
theorem u_mt_are_terms_1 {ρ : Env} : mt_are_terms_1 ρ = (sSeq (sIf (eOr (eNot (eN F_is_integer [(eBor ixD 2 (eC (.int 1)))])) (eBin (eqD no2) (eBor ixD 2 (eC (.int 1))) (eC (.int 0)))) (sRet (eC (.bl false))) sNext) (sAsg true 1 (eBor ixD 2 (eC (.int 0))))) ρ := rfl
theorem u_mt_are_terms_2 {ρ : Env} : mt_are_terms_2 ρ = (sSeq (sIf (eOr (eNot (eN isiD [(eVar 2), (eC (.ty .tuple))])) (eOr (eBin (neD no2) (eBor1 (lenB no1) 2) (eC (.int 2))) (eOr (eNot (eN F_are_small [(eBor ixD 2 (eC (.int 0))), (eC (.int 1)), (eC (.int 1))])) (eBin leD (eBor ixD 2 (eC (.int 0))) (eVar 1))))) (sRet (eC (.bl false))) sNext) mt_are_terms_1) ρ := rfl
theorem u_mt_are_terms_3 {ρ : Env} : mt_are_terms_3 ρ = (sSeq (sFor (iVal (eVar 0)) (gN 2) mt_are_terms_2) (sRet (eC (.bl true)))) ρ := rfl
theorem u_mt_are_terms_4 {ρ : Env} : mt_are_terms_4 ρ = (sSeq (sAsg true 1 (eC (.str []))) mt_are_terms_3) ρ := rfl
theorem u_mm_are_terms {ρ : Env} : mm_are_terms ρ = (sSeq (sIf (eNot (eN isiD [(eVar 0), (eC (.ty .tuple))])) (sRet (eC (.bl false))) sNext) mt_are_terms_4) ρ := rfl
theorem u_mt_Form___init___1 {ρ : Env} : mt_Form___init___1 ρ = (sSeq (sFld 1 1 (eVar 2)) (sFld 1 2 (eBin joinB (eC (.str [])) (eLc (iVal (eVar 2)) (gN 3) none (eBor ixD 3 (eC (.int 0))) [3])))) ρ := rfl
theorem u_mt_Form___init___2 {ρ : Env} : mt_Form___init___2 ρ = (sSeq (sFld 1 0 (eVar 1)) mt_Form___init___1) ρ := rfl
theorem u_mt_Form___init___3 {ρ : Env} : mt_Form___init___3 ρ = (sSeq (sIf (eNot (eN F_are_terms [(eVar 2)])) sNo sNext) mt_Form___init___2) ρ := rfl
theorem u_mm_Form___init__ {ρ : Env} : mm_Form___init__ ρ = (sSeq (sIf (eNot (eN F_is_integer [(eVar 1)])) sNo sNext) mt_Form___init___3) ρ := rfl
theorem u_mm_form_of {ρ : Env} : mm_form_of ρ = (sSeq (sAsg true 2 (eN sortedD [(eLc (iKeys 1) (gN 3) none (eN (strD no1) [(eVar 3)]) [3])])) (sRet (eN (fun xs => mkObj 1 F_Form___init__ (xs ++ [])) [(eVar 0), (eN tupleD [(eLc (iVal (eVar 2)) (gN 3) (some (eBin (neD no2) (eBor ixD 1 (eVar 3)) (eC (.int 0)))) (eN mkTup [(eVar 3), (eBor ixD 1 (eVar 3))]) [3])])]))) ρ := rfl
theorem u_mt_Form___add___1 {ρ : Env} : mt_Form___add___1 ρ = (sPut putM 2 (eVar 3) (eBin (addD no2) (eGetS dgetD 2 (eVar 3) (eC (.int 0))) (eVar 4))) ρ := rfl
theorem u_mt_Form___add___2 {ρ : Env} : mt_Form___add___2 ρ = (sSeq (sFor (iVal (eUn (fldD 1 1) (eVar 1))) (gT [(gN 3), (gN 4)]) mt_Form___add___1) (sRet (eN F_form_of [(eBin (addD no2) (eUn (fldD 1 0) (eVar 0)) (eUn (fldD 1 0) (eVar 1))), (eVar 2)]))) ρ := rfl
theorem u_mt_Form___add___3 {ρ : Env} : mt_Form___add___3 ρ = (sSeq (sAsg true 2 (eN dictD [(eUn (fldD 1 1) (eVar 0))])) mt_Form___add___2) ρ := rfl
theorem u_mt_Form___add___4 {ρ : Env} : mt_Form___add___4 ρ = (sSeq (sIf (eNot (eN isiD [(eVar 1), (eC (.cls 1))])) sNo sNext) mt_Form___add___3) ρ := rfl
theorem u_mm_Form___add__ {ρ : Env} : mm_Form___add__ ρ = (sSeq (sIf (eN F_is_integer [(eVar 1)]) (sRet (eN (fun xs => mkObj 1 F_Form___init__ (xs ++ [])) [(eBin (addD no2) (eUn (fldD 1 0) (eVar 0)) (eVar 1)), (eUn (fldD 1 1) (eVar 0))])) sNext) mt_Form___add___4) ρ := rfl
theorem u_mm_Form___eq__ {ρ : Env} : mm_Form___eq__ ρ = (sRet (eAnd (eN isiD [(eVar 1), (eC (.cls 1))]) (eAnd (eBin (eqD no2) (eUn (fldD 1 0) (eVar 0)) (eUn (fldD 1 0) (eVar 1))) (eBin (eqD no2) (eUn (fldD 1 1) (eVar 0)) (eUn (fldD 1 1) (eVar 1)))))) ρ := rfl
theorem u_mm_Form___mul__ {ρ : Env} : mm_Form___mul__ ρ = (sSeq (sIf (eNot (eN F_is_integer [(eVar 1)])) sNo sNext) (sRet (eN F_form_of [(eBin (mulD no2) (eUn (fldD 1 0) (eVar 0)) (eVar 1)), (eDc (iVal (eUn (fldD 1 1) (eVar 0))) (gT [(gN 2), (gN 3)]) none (eVar 2) (eBin (mulD no2) (eVar 3) (eVar 1)) [2, 3])]))) ρ := rfl
theorem u_mm_Form___neg__ {ρ : Env} : mm_Form___neg__ ρ = (sRet (eBin (mulD (sel (ci 1) (fun x y => F_Form___mul__ [x, y]) no2)) (eVar 0) (eUn (negD no1) (eC (.int 1))))) ρ := rfl
theorem u_mt_Form___sub___1 {ρ : Env} : mt_Form___sub___1 ρ = (sSeq (sIf (eNot (eN isiD [(eVar 1), (eC (.cls 1))])) sNo sNext) (sRet (eBin (addD (sel (cc 1) (fun x y => F_Form___add__ [x, y]) no2)) (eVar 0) (eUn (negD (sel1 (isC 1) (fun x => F_Form___neg__ [x]) no1)) (eVar 1))))) ρ := rfl
theorem u_mm_Form___sub__ {ρ : Env} : mm_Form___sub__ ρ = (sSeq (sIf (eN F_is_integer [(eVar 1)]) (sRet (eN (fun xs => mkObj 1 F_Form___init__ (xs ++ [])) [(eBin (subD no2) (eUn (fldD 1 0) (eVar 0)) (eVar 1)), (eUn (fldD 1 1) (eVar 0))])) sNext) mt_Form___sub___1) ρ := rfl
theorem u_mt_shared_factor_1 {ρ : Env} : mt_shared_factor_1 ρ = (sPar true 2 3 (eVar 3) (eBin modD (eVar 2) (eVar 3))) ρ := rfl
theorem u_mt_shared_factor_2 {ρ : Env} : mt_shared_factor_2 ρ = (sSeq (sWhile (eBin gtD (eVar 3) (eC (.int 0))) mt_shared_factor_1) (sRetV 2)) ρ := rfl
theorem u_mm_shared_factor {ρ : Env} : mm_shared_factor ρ = (sSeq (sPar true 2 3 (eN absD [(eVar 0)]) (eN absD [(eVar 1)])) mt_shared_factor_2) ρ := rfl
theorem u_mt_Ratio___init___1 {ρ : Env} : mt_Ratio___init___1 ρ = (sSeq (sFld 0 0 (eBin fdivD (eVar 1) (eVar 3))) (sFld 0 1 (eBin fdivD (eVar 2) (eVar 3)))) ρ := rfl
theorem u_mt_Ratio___init___2 {ρ : Env} : mt_Ratio___init___2 ρ = (sSeq (sAsg true 3 (eN F_shared_factor [(eVar 1), (eVar 2)])) mt_Ratio___init___1) ρ := rfl
theorem u_mt_Ratio___init___3 {ρ : Env} : mt_Ratio___init___3 ρ = (sSeq (sIf (eOr (eNot (eN F_is_integer [(eVar 2)])) (eBin ltD (eVar 2) (eC (.int 1)))) sNo sNext) mt_Ratio___init___2) ρ := rfl
theorem u_mm_Ratio___init__ {ρ : Env} : mm_Ratio___init__ ρ = (sSeq (sIf (eNot (eN F_is_integer [(eVar 1)])) sNo sNext) mt_Ratio___init___3) ρ := rfl
theorem u_mm_as_ratio {ρ : Env} : mm_as_ratio ρ = (sRet (eIf (eN isiD [(eVar 0), (eC (.cls 0))]) (eVar 0) (eN (fun xs => mkObj 0 F_Ratio___init__ (xs ++ [.int 1])) [(eVar 0)]))) ρ := rfl
theorem u_mt_compared_1 {ρ : Env} : mt_compared_1 ρ = (sSeq (sIf (eBin (eqD no2) (eVar 2) (eVar 3)) (sRet (eC (.int 0))) sNext) (sRet (eIf (eBin ltD (eVar 2) (eVar 3)) (eUn (negD no1) (eC (.int 1))) (eC (.int 1))))) ρ := rfl
theorem u_mm_compared {ρ : Env} : mm_compared ρ = (sSeq (sPar true 2 3 (eBin (mulD no2) (eUn (fldD 0 0) (eVar 0)) (eUn (fldD 0 1) (eVar 1))) (eBin (mulD no2) (eUn (fldD 0 0) (eVar 1)) (eUn (fldD 0 1) (eVar 0)))) mt_compared_1) ρ := rfl
theorem u_mm_is_above {ρ : Env} : mm_is_above ρ = (sRet (eBin gtD (eN F_compared [(eN F_as_ratio [(eVar 0)]), (eN F_as_ratio [(eVar 1)])]) (eC (.int 0)))) ρ := rfl
theorem u_mm_is_fraction {ρ : Env} : mm_is_fraction ρ = (sRet (eOr (eN F_is_integer [(eVar 0)]) (eN isiD [(eVar 0), (eC (.cls 0))]))) ρ := rfl
theorem u_mm_are_lengths {ρ : Env} : mm_are_lengths ρ = (sSeq (sIf (eNot (eN isiD [(eVar 0), (eC (.ty .dict))])) (sRet (eC (.bl false))) sNext) (sRet (eN allD [(eLc (iKeys 0) (gN 1) none (eAnd (eN F_are_small [(eVar 1), (eC (.int 1)), (eC (.int 1))]) (eAnd (eN F_is_fraction [(eBor ixD 0 (eVar 1))]) (eNot (eN F_is_above [(eC (.int 0)), (eBor ixD 0 (eVar 1))])))) [1])]))) ρ := rfl
theorem u_mt_Ratio___add___1 {ρ : Env} : mt_Ratio___add___1 ρ = (sSeq (sAsg true 2 (eN F_as_ratio [(eVar 1)])) (sRet (eN (fun xs => mkObj 0 F_Ratio___init__ (xs ++ [])) [(eBin (addD no2) (eBin (mulD no2) (eUn (fldD 0 0) (eVar 0)) (eUn (fldD 0 1) (eVar 2))) (eBin (mulD no2) (eUn (fldD 0 0) (eVar 2)) (eUn (fldD 0 1) (eVar 0)))), (eBin (mulD no2) (eUn (fldD 0 1) (eVar 0)) (eUn (fldD 0 1) (eVar 2)))]))) ρ := rfl
theorem u_mm_Ratio___add__ {ρ : Env} : mm_Ratio___add__ ρ = (sSeq (sIf (eNot (eN F_is_fraction [(eVar 1)])) sNo sNext) mt_Ratio___add___1) ρ := rfl
theorem u_mt_Ratio___mul___1 {ρ : Env} : mt_Ratio___mul___1 ρ = (sSeq (sAsg true 2 (eN F_as_ratio [(eVar 1)])) (sRet (eN (fun xs => mkObj 0 F_Ratio___init__ (xs ++ [])) [(eBin (mulD no2) (eUn (fldD 0 0) (eVar 0)) (eUn (fldD 0 0) (eVar 2))), (eBin (mulD no2) (eUn (fldD 0 1) (eVar 0)) (eUn (fldD 0 1) (eVar 2)))]))) ρ := rfl
theorem u_mm_Ratio___mul__ {ρ : Env} : mm_Ratio___mul__ ρ = (sSeq (sIf (eNot (eN F_is_fraction [(eVar 1)])) sNo sNext) mt_Ratio___mul___1) ρ := rfl
theorem u_mm_Ratio___rmul__ {ρ : Env} : mm_Ratio___rmul__ ρ = (sSeq (sIf (eNot (eN F_is_fraction [(eVar 1)])) sNo sNext) (sRet (eBin (mulD (sel (cc 0) (fun x y => F_Ratio___mul__ [x, y]) no2)) (eN F_as_ratio [(eVar 1)]) (eVar 0)))) ρ := rfl
theorem u_mt_worth_1 {ρ : Env} : mt_worth_1 ρ = (sAsg true 2 (eBin (addD (sel (cc 0) (fun x y => F_Ratio___add__ [x, y]) no2)) (eVar 2) (eBin (mulD (sel (ci 0) (fun x y => F_Ratio___mul__ [x, y]) no2)) (eN F_as_ratio [(eBor ixD 1 (eVar 3))]) (eVar 4)))) ρ := rfl
theorem u_mt_worth_2 {ρ : Env} : mt_worth_2 ρ = (sSeq (sFor (iVal (eUn (fldD 1 1) (eVar 0))) (gT [(gN 3), (gN 4)]) mt_worth_1) (sRetV 2)) ρ := rfl
theorem u_mm_worth {ρ : Env} : mm_worth ρ = (sSeq (sAsg true 2 (eN (fun xs => mkObj 0 F_Ratio___init__ (xs ++ [.int 1])) [(eUn (fldD 1 0) (eVar 0))])) mt_worth_2) ρ := rfl
theorem u_mm_Form_at {ρ : Env} : mm_Form_at ρ = (sSeq (sIf (eOr (eNot (eN F_are_lengths [(eVar 1)])) (eNot (eN allD [(eLc (iVal (eUn (fldD 1 2) (eVar 0))) (gN 2) none (eBorR inD (eVar 2) 1) [2])]))) sNo sNext) (sRet (eN F_worth [(eVar 0), (eVar 1)]))) ρ := rfl
theorem u_mt_Ratio___eq___1 {ρ : Env} : mt_Ratio___eq___1 ρ = (sSeq (sAsg true 2 (eN F_as_ratio [(eVar 1)])) (sRet (eAnd (eBin (eqD no2) (eUn (fldD 0 0) (eVar 0)) (eUn (fldD 0 0) (eVar 2))) (eBin (eqD no2) (eUn (fldD 0 1) (eVar 0)) (eUn (fldD 0 1) (eVar 2)))))) ρ := rfl
theorem u_mm_Ratio___eq__ {ρ : Env} : mm_Ratio___eq__ ρ = (sSeq (sIf (eNot (eN F_is_fraction [(eVar 1)])) (sRet (eC (.bl false))) sNext) mt_Ratio___eq___1) ρ := rfl
theorem u_mt__law_added_1 {ρ : Env} : mt__law_added_1 ρ = (sPut putM 3 (eVar 4) (eBin (addD no2) (eGetS dgetD 3 (eVar 4) (eC (.int 0))) (eBin (mulD no2) (eVar 2) (eBor ixD 1 (eVar 4))))) ρ := rfl
theorem u_mt__law_added_2 {ρ : Env} : mt__law_added_2 ρ = (sSeq (sFor (iKeys 1) (gN 4) mt__law_added_1) (sRetV 3)) ρ := rfl
theorem u_mm__law_added {ρ : Env} : mm__law_added ρ = (sSeq (sAsg true 3 (eN dictD [(eVar 0)])) mt__law_added_2) ρ := rfl
theorem u_mt__law_draw_1 {ρ : Env} : mt__law_draw_1 ρ = (sSeq (sPut putM 0 (eC (.int 0)) (eBin fdivD (eBor ixD 0 (eC (.int 0))) (eVar 1))) (sRetV 2)) ρ := rfl
theorem u_mt__law_draw_2 {ρ : Env} : mt__law_draw_2 ρ = (sSeq (sPut putM 0 (eC (.int 1)) (eBin modD (eN intD [(eBin (addD no2) (eBin (addD no2) (eBin (mulD no2) (eVar 3) (eVar 4)) (eBin (mulD no2) (eC (.int 11)) (eBor ixD 0 (eC (.int 2))))) (eC (.int 17)))]) (eC (.int 2147483563)))) (sRet (eBin modD (eBin fdivD (eN intD [(eBor ixD 0 (eC (.int 1)))]) (eC (.int 523))) (eVar 1)))) ρ := rfl
theorem u_mt__law_draw_3 {ρ : Env} : mt__law_draw_3 ρ = (sSeq (sAsg true 4 (eBin (addD no2) (eBin modD (eN intD [(eVar 3)]) (eC (.int 59951))) (eC (.int 40031)))) mt__law_draw_2) ρ := rfl
theorem u_mt__law_draw_4 {ρ : Env} : mt__law_draw_4 ρ = (sSeq (sAsg true 3 (eBin (addD no2) (eN intD [(eBor ixD 0 (eC (.int 1)))]) (eBin (mulD no2) (eC (.int 104593)) (eBor ixD 0 (eC (.int 2)))))) mt__law_draw_3) ρ := rfl
theorem u_mt__law_draw_5 {ρ : Env} : mt__law_draw_5 ρ = (sSeq (sIf (eBin gtD (eBor ixD 0 (eC (.int 0))) (eC (.int 0))) (sSeq (sAsg true 2 (eBin modD (eN intD [(eBor ixD 0 (eC (.int 0)))]) (eVar 1))) mt__law_draw_1) sNext) mt__law_draw_4) ρ := rfl
theorem u_mm__law_draw {ρ : Env} : mm__law_draw ρ = (sSeq (sPut putM 0 (eC (.int 2)) (eBin (addD no2) (eBor ixD 0 (eC (.int 2))) (eC (.int 1)))) mt__law_draw_5) ρ := rfl
theorem u_mm__law_one {ρ : Env} : mm__law_one ρ = (sRet (eBor ixD 1 (eCallR F__law_draw [] 0 [(eBor1 (lenB no1) 1)]))) ρ := rfl
theorem u_mt__law_drawn_1 {ρ : Env} : mt__law_drawn_1 ρ = (sSeq (sAsg true 3 (eBin (addD no2) (eC (.int 1)) (eCallR F__law_one [] 0 [(eN mkLst [(eC (.int 0)), (eC (.int 1)), (eCallR F__law_draw [] 0 [(eC (.int 9))]), (eCallR F__law_draw [] 0 [(eBin powD (eC (.int 10)) (eC (.int 12)))])])]))) (sPut putM 1 (eCallR F__law_one [] 0 [(eC (.str [97, 98, 99, 120, 121, 122]))]) (eBin (mulD no2) (eVar 3) (eCallR F__law_one [] 0 [(eN mkLst [(eC (.int 1)), (eBin (subD no2) (eC (.int 0)) (eC (.int 1)))])])))) ρ := rfl
theorem u_mt__law_drawn_2 {ρ : Env} : mt__law_drawn_2 ρ = (sSeq (sFor (iRange [(eCallR F__law_draw [] 0 [(eC (.int 6))])]) (gN 2) mt__law_drawn_1) (sRet (eN mkTup [(eCallR F__law_one [] 0 [(eN mkLst [(eC (.int 0)), (eC (.int 5)), (eBin (subD no2) (eC (.int 0)) (eC (.int 7))), (eCallR F__law_draw [] 0 [(eBin powD (eC (.int 10)) (eC (.int 12)))])])]), (eVar 1)]))) ρ := rfl
theorem u_mm__law_drawn {ρ : Env} : mm__law_drawn ρ = (sSeq (sAsg true 1 (eC0 (.dic []))) mt__law_drawn_2) ρ := rfl
theorem u_mm__law_pairs {ρ : Env} : mm__law_pairs ρ = (sRet (eN tupleD [(eLc (iVal (eN sortedD [(eN listD [(eVar 0)])])) (gN 1) (some (eBin (neD no2) (eBor ixD 0 (eVar 1)) (eC (.int 0)))) (eN mkTup [(eVar 1), (eBor ixD 0 (eVar 1))]) [1])])) ρ := rfl
theorem u_mm__law_due {ρ : Env} : mm__law_due ρ = (sSeq (sAsg true 2 (eN F__law_pairs [(eVar 1)])) (sRet (eN mkLst [(eVar 0), (eVar 2), (eBin joinB (eC (.str [])) (eLc (iVal (eVar 2)) (gN 3) none (eBor ixD 3 (eC (.int 0))) [3]))]))) ρ := rfl
theorem u_mm__law_shown {ρ : Env} : mm__law_shown ρ = (sRet (eN mkLst [(eUn (fldD 1 0) (eVar 0)), (eUn (fldD 1 1) (eVar 0)), (eUn (fldD 1 2) (eVar 0))])) ρ := rfl
theorem u_mt__law_right_1 {ρ : Env} : mt__law_right_1 ρ = (sSeq (sPut putM 11 (eVar 8) (eIf (eBin (eqD (sel (cany 1) (fun x y => F_Form___eq__ [x, y]) (sel (cany 0) (fun x y => F_Ratio___eq__ [x, y]) no2))) (eBin modD (eN intD [(eVar 13)]) (eC (.int 6))) (eC (.int 0))) (eBin fdivD (eVar 13) (eC (.int 6))) (eN (fun xs => mkObj 0 F_Ratio___init__ (xs ++ [])) [(eVar 13), (eC (.int 6))]))) (sAsg true 12 (eBin (addD (sel (cc 1) (fun x y => F_Form___add__ [x, y]) (sel (ci 1) (fun x y => F_Form___add__ [x, y]) no2))) (eVar 12) (eBin (mulD (sel (ci 1) (fun x y => F_Form___mul__ [x, y]) no2)) (eVar 13) (eGet dgetD (eBor ixD 2 (eC (.int 1))) (eVar 8) (eC (.int 0))))))) ρ := rfl
theorem u_mt__law_right_2 {ρ : Env} : mt__law_right_2 ρ = (sSeq (sAsg true 13 (eCallR F__law_one [] 0 [(eN mkLst [(eC (.int 0)), (eC (.int 6)), (eCallR F__law_draw [] 0 [(eC (.int 500))])])])) mt__law_right_1) ρ := rfl
theorem u_mt__law_right_3 {ρ : Env} : mt__law_right_3 ρ = (sSeq (sFor (iVal (eC (.str [97, 98, 99, 120, 121, 122]))) (gN 8) mt__law_right_2) (sIf (eOr (eBin (neD (sel (cany 1) (fun x y => F_Form___eq__ [x, y]) (sel (cany 0) (fun x y => F_Ratio___eq__ [x, y]) no2))) (eMeth 1 F_Form_at (eVar 5) [(eVar 11)]) (eN (fun xs => mkObj 0 F_Ratio___init__ (xs ++ [])) [(eVar 12), (eC (.int 6))])) (eBin (neD (sel (cany 1) (fun x y => F_Form___eq__ [x, y]) (sel (cany 0) (fun x y => F_Ratio___eq__ [x, y]) no2))) (eMethK 1 F_Form_at (prm [0]) (eVar 5) [] [(eVar 11)]) (eN (fun xs => mkObj 0 F_Ratio___init__ (xs ++ [])) [(eVar 12), (eC (.int 6))]))) (sRet (eC (.bl false))) sNext)) ρ := rfl
theorem u_mt__law_right_4 {ρ : Env} : mt__law_right_4 ρ = (sSeq (sPar true 11 12 (eC0 (.dic [])) (eBin (mulD (sel (ci 1) (fun x y => F_Form___mul__ [x, y]) no2)) (eC (.int 6)) (eBor ixD 2 (eC (.int 0))))) mt__law_right_3) ρ := rfl
theorem u_mt__law_right_5 {ρ : Env} : mt__law_right_5 ρ = (sSeq (sIf (eOr (eBin (neD (sel (cany 1) (fun x y => F_Form___eq__ [x, y]) (sel (cany 0) (fun x y => F_Ratio___eq__ [x, y]) no2))) (eBin (eqD (sel (cany 1) (fun x y => F_Form___eq__ [x, y]) (sel (cany 0) (fun x y => F_Ratio___eq__ [x, y]) no2))) (eVar 5) (eVar 6)) (eVar 10)) (eBin (eqD (sel (cany 1) (fun x y => F_Form___eq__ [x, y]) (sel (cany 0) (fun x y => F_Ratio___eq__ [x, y]) no2))) (eVar 5) (eBor ixD 2 (eC (.int 0))))) (sRet (eC (.bl false))) sNext) mt__law_right_4) ρ := rfl
theorem u_mt__law_right_6 {ρ : Env} : mt__law_right_6 ρ = (sSeq (sAsg true 10 (eBin (eqD (sel (cany 1) (fun x y => F_Form___eq__ [x, y]) (sel (cany 0) (fun x y => F_Ratio___eq__ [x, y]) no2))) (eN F__law_due [(eBor ixD 2 (eC (.int 0))), (eBor ixD 2 (eC (.int 1)))]) (eN F__law_due [(eBor ixD 3 (eC (.int 0))), (eBor ixD 3 (eC (.int 1)))]))) mt__law_right_5) ρ := rfl
theorem u_mt__law_right_7 {ρ : Env} : mt__law_right_7 ρ = (sSeq (sIf (eBin (neD (sel (cany 1) (fun x y => F_Form___eq__ [x, y]) (sel (cany 0) (fun x y => F_Ratio___eq__ [x, y]) no2))) (eVar 7) (eBin (addD (sel (cc 1) (fun x y => F_Form___add__ [x, y]) (sel (ci 1) (fun x y => F_Form___add__ [x, y]) no2))) (eVar 9) (eN mkLst [(eN F__law_due [(eBin (addD (sel (cc 1) (fun x y => F_Form___add__ [x, y]) (sel (ci 1) (fun x y => F_Form___add__ [x, y]) no2))) (eBor ixD 2 (eC (.int 0))) (eVar 4)), (eBor ixD 2 (eC (.int 1)))]), (eN F__law_due [(eBin (subD (sel (cc 1) (fun x y => F_Form___sub__ [x, y]) (sel (ci 1) (fun x y => F_Form___sub__ [x, y]) no2))) (eBor ixD 2 (eC (.int 0))) (eVar 4)), (eBor ixD 2 (eC (.int 1)))])]))) (sRet (eC (.bl false))) sNext) mt__law_right_6) ρ := rfl
theorem u_mt__law_right_8 {ρ : Env} : mt__law_right_8 ρ = (sSeq (sExpr (eMut appendM 9 [(eN F__law_due [(eBin (subD (sel (cc 1) (fun x y => F_Form___sub__ [x, y]) (sel (ci 1) (fun x y => F_Form___sub__ [x, y]) no2))) (eC (.int 0)) (eBor ixD 2 (eC (.int 0)))), (eN F__law_added [(eC0 (.dic [])), (eBor ixD 2 (eC (.int 1))), (eBin (subD (sel (cc 1) (fun x y => F_Form___sub__ [x, y]) (sel (ci 1) (fun x y => F_Form___sub__ [x, y]) no2))) (eC (.int 0)) (eC (.int 1)))])])])) mt__law_right_7) ρ := rfl
theorem u_mt__law_right_9 {ρ : Env} : mt__law_right_9 ρ = (sSeq (sExpr (eMut appendM 9 [(eN F__law_due [(eBin (mulD (sel (ci 1) (fun x y => F_Form___mul__ [x, y]) no2)) (eBor ixD 2 (eC (.int 0))) (eVar 4)), (eN F__law_added [(eC0 (.dic [])), (eBor ixD 2 (eC (.int 1))), (eVar 4)])])])) mt__law_right_8) ρ := rfl
theorem u_mt__law_right_10 {ρ : Env} : mt__law_right_10 ρ = (sSeq (sAsg true 9 (eBin (addD (sel (cc 1) (fun x y => F_Form___add__ [x, y]) (sel (ci 1) (fun x y => F_Form___add__ [x, y]) no2))) (eVar 9) (eN mkLst [(eN F__law_due [(eBin (subD (sel (cc 1) (fun x y => F_Form___sub__ [x, y]) (sel (ci 1) (fun x y => F_Form___sub__ [x, y]) no2))) (eBor ixD 2 (eC (.int 0))) (eBor ixD 3 (eC (.int 0)))), (eN F__law_added [(eBor ixD 2 (eC (.int 1))), (eBor ixD 3 (eC (.int 1))), (eBin (subD (sel (cc 1) (fun x y => F_Form___sub__ [x, y]) (sel (ci 1) (fun x y => F_Form___sub__ [x, y]) no2))) (eC (.int 0)) (eC (.int 1)))])])]))) mt__law_right_9) ρ := rfl
theorem u_mt__law_right_11 {ρ : Env} : mt__law_right_11 ρ = (sSeq (sExpr (eMut appendM 9 [(eN F__law_due [(eBin (addD (sel (cc 1) (fun x y => F_Form___add__ [x, y]) (sel (ci 1) (fun x y => F_Form___add__ [x, y]) no2))) (eBor ixD 2 (eC (.int 0))) (eBor ixD 3 (eC (.int 0)))), (eN F__law_added [(eBor ixD 2 (eC (.int 1))), (eBor ixD 3 (eC (.int 1))), (eC (.int 1))])])])) mt__law_right_10) ρ := rfl
theorem u_mt__law_right_12 {ρ : Env} : mt__law_right_12 ρ = (sSeq (sAsg true 9 (eN mkLst [(eN F__law_due [(eBor ixD 2 (eC (.int 0))), (eBor ixD 2 (eC (.int 1)))])])) mt__law_right_11) ρ := rfl
theorem u_mt__law_right_13 {ρ : Env} : mt__law_right_13 ρ = (sSeq (sAsg true 7 (eBin (addD (sel (cc 1) (fun x y => F_Form___add__ [x, y]) (sel (ci 1) (fun x y => F_Form___add__ [x, y]) no2))) (eVar 7) (eLc (iVal (eN mkLst [(eUn (negD (sel1 (isC 1) (fun x => F_Form___neg__ [x]) no1)) (eVar 5)), (eBin (addD (sel (cc 1) (fun x y => F_Form___add__ [x, y]) (sel (ci 1) (fun x y => F_Form___add__ [x, y]) no2))) (eVar 5) (eVar 4)), (eBin (subD (sel (cc 1) (fun x y => F_Form___sub__ [x, y]) (sel (ci 1) (fun x y => F_Form___sub__ [x, y]) no2))) (eVar 5) (eVar 4))])) (gN 8) none (eN F__law_shown [(eVar 8)]) [8]))) mt__law_right_12) ρ := rfl
theorem u_mt__law_right_14 {ρ : Env} : mt__law_right_14 ρ = (sSeq (sAsg true 7 (eLc (iVal (eN mkLst [(eVar 5), (eBin (addD (sel (cc 1) (fun x y => F_Form___add__ [x, y]) (sel (ci 1) (fun x y => F_Form___add__ [x, y]) no2))) (eVar 5) (eVar 6)), (eBin (subD (sel (cc 1) (fun x y => F_Form___sub__ [x, y]) (sel (ci 1) (fun x y => F_Form___sub__ [x, y]) no2))) (eVar 5) (eVar 6)), (eBin (mulD (sel (ci 1) (fun x y => F_Form___mul__ [x, y]) no2)) (eVar 5) (eVar 4))])) (gN 8) none (eN F__law_shown [(eVar 8)]) [8])) mt__law_right_13) ρ := rfl
theorem u_mt__law_right_15 {ρ : Env} : mt__law_right_15 ρ = (sSeq (sPar true 5 6 (eN (fun xs => mkObj 1 F_Form___init__ (xs ++ [])) [(eBor ixD 2 (eC (.int 0))), (eN F__law_pairs [(eBor ixD 2 (eC (.int 1)))])]) (eNK (mkObj 1 F_Form___init__) (prm [1, 0]) [] [(eN F__law_pairs [(eBor ixD 3 (eC (.int 1)))]), (eBor ixD 3 (eC (.int 0)))])) mt__law_right_14) ρ := rfl
theorem u_mt__law_right_16 {ρ : Env} : mt__law_right_16 ρ = (sSeq (sIf (eBin (eqD (sel (cany 1) (fun x y => F_Form___eq__ [x, y]) (sel (cany 0) (fun x y => F_Ratio___eq__ [x, y]) no2))) (eCallR F__law_draw [] 0 [(eC (.int 3))]) (eC (.int 0))) (sAsg true 3 (eN mkTup [(eBor ixD 3 (eC (.int 0))), (eN F__law_added [(eC0 (.dic [])), (eBor ixD 2 (eC (.int 1))), (eBin (subD (sel (cc 1) (fun x y => F_Form___sub__ [x, y]) (sel (ci 1) (fun x y => F_Form___sub__ [x, y]) no2))) (eC (.int 0)) (eC (.int 1)))])])) sNext) mt__law_right_15) ρ := rfl
theorem u_mt__law_right_17 {ρ : Env} : mt__law_right_17 ρ = (sSeq (sAsg true 4 (eCallR F__law_one [] 0 [(eN mkLst [(eC (.int 0)), (eC (.int 1)), (eBin (subD (sel (cc 1) (fun x y => F_Form___sub__ [x, y]) (sel (ci 1) (fun x y => F_Form___sub__ [x, y]) no2))) (eC (.int 0)) (eC (.int 1))), (eC (.int 3)), (eBin (subD (sel (cc 1) (fun x y => F_Form___sub__ [x, y]) (sel (ci 1) (fun x y => F_Form___sub__ [x, y]) no2))) (eC (.int 0)) (eBin powD (eC (.int 10)) (eC (.int 6))))])])) mt__law_right_16) ρ := rfl
theorem u_mt__law_right_18 {ρ : Env} : mt__law_right_18 ρ = (sSeq (sPar true 2 3 (eCallR F__law_drawn [] 0 []) (eCallR F__law_drawn [] 0 [])) mt__law_right_17) ρ := rfl
theorem u_mm__law_right {ρ : Env} : mm__law_right ρ = (sSeq (sFor (iRange [(eC (.int 5))]) (gN 1) mt__law_right_18) (sRet (eAnd (eBin (eqD (sel (cany 1) (fun x y => F_Form___eq__ [x, y]) (sel (cany 0) (fun x y => F_Ratio___eq__ [x, y]) no2))) (eN (fun xs => mkObj 1 F_Form___init__ (xs ++ [.int 0, .tup []])) []) (eN (fun xs => mkObj 1 F_Form___init__ (xs ++ [])) [(eC (.int 0)), (eN mkTup [])])) (eAnd (eBin (neD (sel (cany 1) (fun x y => F_Form___eq__ [x, y]) (sel (cany 0) (fun x y => F_Ratio___eq__ [x, y]) no2))) (eN (fun xs => mkObj 1 F_Form___init__ (xs ++ [.tup []])) [(eC (.int 3))]) (eN (fun xs => mkObj 1 F_Form___init__ (xs ++ [.tup []])) [(eC (.int 4))])) (eNot (eBin (eqD (sel (cany 1) (fun x y => F_Form___eq__ [x, y]) (sel (cany 0) (fun x y => F_Ratio___eq__ [x, y]) no2))) (eN (fun xs => mkObj 1 F_Form___init__ (xs ++ [.tup []])) [(eC (.int 2))]) (eC (.int 2)))))))) ρ := rfl
theorem u_mm_law {ρ : Env} : mm_law ρ = (sRet (eN allD [(eLc (iRange [(eN maxD [(eC (.int 2)), (eN minD [(eBor1 (lenB no1) 0), (eC (.int 6))])])]) (gN 1) none (eCallT F__law_right [] (eN F__law_bag [(eVar 0), (eVar 1)])) [1])])) ρ := rfl
theorem o__law_bag {x0 x1 : D} : F__law_bag [x0, x1] = bnd (mm__law_bag [.sh x0, .sh x1, .un, .un, .un, .un]) fun r => endOf r.1 := by rw [q__law_bag]; exact fn_eq rfl
theorem o_are_small {x0 x1 x2 : D} : F_are_small [x0, x1, x2] = bnd (mm_are_small [.sh x0, .sh x1, .sh x2, .un]) fun r => endOf r.1 := by rw [q_are_small]; exact fn_eq rfl
theorem o_is_integer {x0 : D} : F_is_integer [x0] = bnd (mm_is_integer [.sh x0]) fun r => endOf r.1 := by rw [q_is_integer]; exact fn_eq rfl
theorem o_are_terms {x0 : D} : F_are_terms [x0] = bnd (mm_are_terms [.sh x0, .un, .un]) fun r => endOf r.1 := by rw [q_are_terms]; exact fn_eq rfl
theorem o_Form___init__ {x0 x1 x2 : D} : F_Form___init__ [x1, x2] x0 = bnd (mm_Form___init__ [.ow x0, .sh x1, .sh x2, .un]) fun r => bnd (endOf r.1) fun t => bnd (ownG r.2[0]?) fun d' => .ok (t, d') := by rw [q_Form___init__]; exact fnR_eq rfl (by decide)
theorem o_form_of {x0 x1 : D} : F_form_of [x0, x1] = bnd (mm_form_of [.sh x0, .sh x1, .un, .un]) fun r => endOf r.1 := by rw [q_form_of]; exact fn_eq rfl
theorem o_Form___add__ {x0 x1 : D} : F_Form___add__ [x0, x1] = bnd (mm_Form___add__ [.sh x0, .sh x1, .un, .un, .un]) fun r => endOf r.1 := by rw [q_Form___add__]; exact fn_eq rfl
theorem o_Form___eq__ {x0 x1 : D} : F_Form___eq__ [x0, x1] = bnd (mm_Form___eq__ [.sh x0, .sh x1]) fun r => endOf r.1 := by rw [q_Form___eq__]; exact fn_eq rfl
theorem o_Form___mul__ {x0 x1 : D} : F_Form___mul__ [x0, x1] = bnd (mm_Form___mul__ [.sh x0, .sh x1, .un, .un]) fun r => endOf r.1 := by rw [q_Form___mul__]; exact fn_eq rfl
theorem o_Form___neg__ {x0 : D} : F_Form___neg__ [x0] = bnd (mm_Form___neg__ [.sh x0]) fun r => endOf r.1 := by rw [q_Form___neg__]; exact fn_eq rfl
theorem o_Form___sub__ {x0 x1 : D} : F_Form___sub__ [x0, x1] = bnd (mm_Form___sub__ [.sh x0, .sh x1]) fun r => endOf r.1 := by rw [q_Form___sub__]; exact fn_eq rfl
theorem o_shared_factor {x0 x1 : D} : F_shared_factor [x0, x1] = bnd (mm_shared_factor [.sh x0, .sh x1, .un, .un]) fun r => endOf r.1 := by rw [q_shared_factor]; exact fn_eq rfl
theorem o_Ratio___init__ {x0 x1 x2 : D} : F_Ratio___init__ [x1, x2] x0 = bnd (mm_Ratio___init__ [.ow x0, .sh x1, .sh x2, .un]) fun r => bnd (endOf r.1) fun t => bnd (ownG r.2[0]?) fun d' => .ok (t, d') := by rw [q_Ratio___init__]; exact fnR_eq rfl (by decide)
theorem o_as_ratio {x0 : D} : F_as_ratio [x0] = bnd (mm_as_ratio [.sh x0]) fun r => endOf r.1 := by rw [q_as_ratio]; exact fn_eq rfl
theorem o_compared {x0 x1 : D} : F_compared [x0, x1] = bnd (mm_compared [.sh x0, .sh x1, .un, .un]) fun r => endOf r.1 := by rw [q_compared]; exact fn_eq rfl
theorem o_is_above {x0 x1 : D} : F_is_above [x0, x1] = bnd (mm_is_above [.sh x0, .sh x1]) fun r => endOf r.1 := by rw [q_is_above]; exact fn_eq rfl
theorem o_is_fraction {x0 : D} : F_is_fraction [x0] = bnd (mm_is_fraction [.sh x0]) fun r => endOf r.1 := by rw [q_is_fraction]; exact fn_eq rfl
theorem o_are_lengths {x0 : D} : F_are_lengths [x0] = bnd (mm_are_lengths [.sh x0, .un]) fun r => endOf r.1 := by rw [q_are_lengths]; exact fn_eq rfl
theorem o_Ratio___add__ {x0 x1 : D} : F_Ratio___add__ [x0, x1] = bnd (mm_Ratio___add__ [.sh x0, .sh x1, .un]) fun r => endOf r.1 := by rw [q_Ratio___add__]; exact fn_eq rfl
theorem o_Ratio___mul__ {x0 x1 : D} : F_Ratio___mul__ [x0, x1] = bnd (mm_Ratio___mul__ [.sh x0, .sh x1, .un]) fun r => endOf r.1 := by rw [q_Ratio___mul__]; exact fn_eq rfl
theorem o_Ratio___rmul__ {x0 x1 : D} : F_Ratio___rmul__ [x0, x1] = bnd (mm_Ratio___rmul__ [.sh x0, .sh x1]) fun r => endOf r.1 := by rw [q_Ratio___rmul__]; exact fn_eq rfl
theorem o_worth {x0 x1 : D} : F_worth [x0, x1] = bnd (mm_worth [.sh x0, .sh x1, .un, .un, .un]) fun r => endOf r.1 := by rw [q_worth]; exact fn_eq rfl
theorem o_Form_at {x0 x1 : D} : F_Form_at [x0, x1] = bnd (mm_Form_at [.sh x0, .sh x1, .un]) fun r => endOf r.1 := by rw [q_Form_at]; exact fn_eq rfl
theorem o_Ratio___eq__ {x0 x1 : D} : F_Ratio___eq__ [x0, x1] = bnd (mm_Ratio___eq__ [.sh x0, .sh x1, .un]) fun r => endOf r.1 := by rw [q_Ratio___eq__]; exact fn_eq rfl
theorem o__law_added {x0 x1 x2 : D} : F__law_added [x0, x1, x2] = bnd (mm__law_added [.sh x0, .sh x1, .sh x2, .un, .un]) fun r => endOf r.1 := by rw [q__law_added]; exact fn_eq rfl
theorem o__law_draw {x0 x1 : D} : F__law_draw [x1] x0 = bnd (mm__law_draw [.ow x0, .sh x1, .un, .un, .un]) fun r => bnd (endOf r.1) fun t => bnd (ownG r.2[0]?) fun d' => .ok (t, d') := by rw [q__law_draw]; exact fnR_eq rfl (by decide)
theorem o__law_one {x0 x1 : D} : F__law_one [x1] x0 = bnd (mm__law_one [.ow x0, .sh x1]) fun r => bnd (endOf r.1) fun t => bnd (ownG r.2[0]?) fun d' => .ok (t, d') := by rw [q__law_one]; exact fnR_eq rfl (by decide)
theorem o__law_drawn {x0 : D} : F__law_drawn [] x0 = bnd (mm__law_drawn [.ow x0, .un, .un, .un]) fun r => bnd (endOf r.1) fun t => bnd (ownG r.2[0]?) fun d' => .ok (t, d') := by rw [q__law_drawn]; exact fnR_eq rfl (by decide)
theorem o__law_pairs {x0 : D} : F__law_pairs [x0] = bnd (mm__law_pairs [.sh x0, .un]) fun r => endOf r.1 := by rw [q__law_pairs]; exact fn_eq rfl
theorem o__law_due {x0 x1 : D} : F__law_due [x0, x1] = bnd (mm__law_due [.sh x0, .sh x1, .un, .un]) fun r => endOf r.1 := by rw [q__law_due]; exact fn_eq rfl
theorem o__law_shown {x0 : D} : F__law_shown [x0] = bnd (mm__law_shown [.sh x0]) fun r => endOf r.1 := by rw [q__law_shown]; exact fn_eq rfl
theorem o__law_right {x0 : D} : F__law_right [] x0 = bnd (mm__law_right [.ow x0, .un, .un, .un, .un, .un, .un, .un, .un, .un, .un, .un, .un, .un]) fun r => bnd (endOf r.1) fun t => bnd (ownG r.2[0]?) fun d' => .ok (t, d') := by rw [q__law_right]; exact fnR_eq rfl (by decide)
theorem o_law {x0 : D} : F_law [x0] = bnd (mm_law [.sh x0, .un]) fun r => endOf r.1 := by rw [q_law]; exact fn_eq rfl
end DY

set_option Elab.async false
set_option linter.all false
set_option maxRecDepth 100000
set_option maxHeartbeats 4000000
namespace DY
local macro_rules | `(tactic| exists $es,*) => do
  let ls ← es.getElems.mapM fun e => `(Lean.Parser.Tactic.simpLemma| $e:term)
  `(tactic| simp -dsimp -implicitDefEqProofs (disch := walk_at "ds") only [bnd_ok, bnd_ex, bnd_bnd, Wn_ok, cnd_t, cnd_f, cnd_n, cnd_p, cnd_q, varG_sh, varG_ow, movG_sh, movG_ow, lookG_sh, lookG_ow, ownG_ow, get_0, get_s, set_0, set_s, ev_var, ev_mov0, ev_look, ev_c, ev_c0, ev_bin, ev_un, ev_bor, ev_borR, ev_bor1, ev_nil, ev_cons, ev_n, ev_if, ev_and, ev_or, notR_bl, ev_not, ev_chain, ev_callR, ev_callT, isIns_ok_, ev_meth, ev_methK, ev_nk, isL_ok, ev_mut, ev_get, ev_getS, intR_i, ev_part0, ev_part1, ev_slice, seqk_nx, seqk_rt, seqk_bk, seqk_ct, ev_seq, ev_next, ev_break, ev_cont, keep_tt, keep_tf, keep_fx, ev_asg, ev_par, ev_gN, ev_gTt, ev_gTk, ev_g0, ev_g1, ev_asgT, ev_expr, ev_ret, ev_retV, ev_retN, ev_sif, ev_for, ev_while, ev_put, ev_fld, fldG_0, fldG_1, fldG_2, fldG_3, fldG_4, fldG_5, fldG_6, end_nx, end_rt, objE_go, ev_iv, items_lst, items_fls, items_tup, items_str, ev_range, rngG_1, rngG_2, keyG_sh, keyG_ow, ev_keys, forE_nx, forE_ct, forE_bk, forE_rt, LK_nx, LK_ct, LK_bk, LK_rt, cndO_none, cndO_some, ev_lc, add_i, add_s, add_l, add_t, add_o, add_o', sub_i, sub_o, sub_o', mul_i, mul_o, mul_o', fdiv_i, mod_i, pow_i, neg_i, neg_o, lt_i, lt_s, le_i, le_s, gt_i, gt_s, ge_i, ge_s, eq_i, eq_s, eq_b, eq_o, eq_o', ne_i, ne_s, ne_b, ne_o, isN_n, isN_i, isN_b, isN_s, isN_t, isN_l, isN_d, isN_o, notN_n, notN_i, notN_b, notN_s, notN_t, notN_l, notN_d, notN_o, sel_t, sel_f, sel1_t, isC_i, isC_n, cc_ii, cc_in, cc_ni, ci_in, ci_ii, ci_n, ic_in, ic_ii, cany_i, cany_o, cany_n, in_c, in_di, in_ds, nin_c, nin_ds, opt_s, ixt_0, ixt_1, ixt_2, ixt_3, ixl_0, ixl_1, ixl_2, ix_ds, ix_di, sl_l, sl_f, sl_t, sl_s, len_l, len_f, len_t, len_d, len_s, len_o, lenD_e, isi_int_i, isi_int_b, isi_bool_b, isi_bool_i, isi_str_s, isi_str_i, isi_str_t, isi_tup_t, isi_tup_i, isi_tup_s, isi_dict_d, isi_int_s, isi_int_t, isi_int_o, isi_o, isi_c_i, isi_c_s, isi_c_t, isi_c_n, abs_i, int_i, max_i, min_i, all_m, any_m, sum_m, tuple_l, tuple_t, list_l, list_t, list_d, dict_d, str_i, str_s, str_o, mkTup_e, mkKey_e, mkLst_e, get_ds, get_di, app_e, put_ds, put_di, put_l0, put_l1, put_l2, fld_0, fld_1, fld_2, fld_3, fld_4, fld_5, fld_6, wipe_0, wipe_s, ev_dc, keyOf_s, keyOf_i, okS_un, okS_sh, okS_us, noOw_0, noOw_s, back_0, back_s, getD_0, getD_s, u_mt__law_bag_1, u_mt__law_bag_2, u_mt__law_bag_3, u_mm__law_bag, u_mm_are_small, u_mm_is_integer, u_mt_are_terms_1, u_mt_are_terms_2, u_mt_are_terms_3, u_mt_are_terms_4, u_mm_are_terms, u_mt_Form___init___1, u_mt_Form___init___2, u_mt_Form___init___3, u_mm_Form___init__, u_mm_form_of, u_mt_Form___add___1, u_mt_Form___add___2, u_mt_Form___add___3, u_mt_Form___add___4, u_mm_Form___add__, u_mm_Form___eq__, u_mm_Form___mul__, u_mm_Form___neg__, u_mt_Form___sub___1, u_mm_Form___sub__, u_mt_shared_factor_1, u_mt_shared_factor_2, u_mm_shared_factor, u_mt_Ratio___init___1, u_mt_Ratio___init___2, u_mt_Ratio___init___3, u_mm_Ratio___init__, u_mm_as_ratio, u_mt_compared_1, u_mm_compared, u_mm_is_above, u_mm_is_fraction, u_mm_are_lengths, u_mt_Ratio___add___1, u_mm_Ratio___add__, u_mt_Ratio___mul___1, u_mm_Ratio___mul__, u_mm_Ratio___rmul__, u_mt_worth_1, u_mt_worth_2, u_mm_worth, u_mm_Form_at, u_mt_Ratio___eq___1, u_mm_Ratio___eq__, u_mt__law_added_1, u_mt__law_added_2, u_mm__law_added, u_mt__law_draw_1, u_mt__law_draw_2, u_mt__law_draw_3, u_mt__law_draw_4, u_mt__law_draw_5, u_mm__law_draw, u_mm__law_one, u_mt__law_drawn_1, u_mt__law_drawn_2, u_mm__law_drawn, u_mm__law_pairs, u_mm__law_due, u_mm__law_shown, u_mt__law_right_1, u_mt__law_right_2, u_mt__law_right_3, u_mt__law_right_4, u_mt__law_right_5, u_mt__law_right_6, u_mt__law_right_7, u_mt__law_right_8, u_mt__law_right_9, u_mt__law_right_10, u_mt__law_right_11, u_mt__law_right_12, u_mt__law_right_13, u_mt__law_right_14, u_mt__law_right_16, u_mt__law_right_17, u_mm__law_right, u_mm_law, decide_true, decide_false, if_true, if_false, Bool.not_true, Bool.not_false, List.length_cons, List.length_nil, Int.cast_ofNat_Int, List.nil_append, List.cons_append, List.append_nil, and_self, and_true, true_and, and_false, false_and, List.length_map, Int.reduceToNat, Int.reducePow, Int.reduceSub, Int.reduceAdd, Int.reduceMul, Int.reduceNeg, $ls,*])
open SL (nm dn gI Bd)
local macro_rules | `(tactic| walk_at "ds") => `(tactic| first | assumption | omega | (simp only [List.length_map, List.length_append, List.length_cons, List.length_nil]; omega) | exact mulOk_n (by omega) (by omega) | exact divOk_b (by omega) (by omega) | (refine id ?_; with_unfolding_all rfl) | (refine id ?_; with_unfolding_all exact Nat.le_of_ble_eq_true rfl) | (simp only [noOw_s, noOw_0, okS_un, okS_sh, okS_us, get_0, get_s, Bool.and_true]; done))
--#STOP mt__law_right_15 mt__law_right_18
--#NEW
/-! ### bags -/
def BagOk (n : Nat) (d : D) : Prop := ∃ a b c : Int, d = .lst [.int a, .int b, .int c] ∧ 0 ≤ a ∧ 0 ≤ b ∧ b < 2147483648 ∧ 0 ≤ c ∧ c ≤ n
theorem BagOk.mono {n m : Nat} {d : D} (h : BagOk n d) (l : n ≤ m) : BagOk m d := by
  obtain ⟨a, b, c, e, h1, h2, h3, h4, h5⟩ := h
  exact ⟨a, b, c, e, h1, h2, h3, h4, by omega⟩
section
variable {γ : Type} {kk : Rv × D → R γ} {P : γ → Prop} {n : Nat} {bag : D} {w : Int}
theorem wp_draw (hb : BagOk n bag) (hn : n < 2 ^ 60) (hw : 0 < w) (hw2 : w < 2 ^ 64) (k : ∀ i d', 0 ≤ i → i < w → BagOk (n + 1) d' → Wn (kk ((.int i, false), d')) P) : Wn (bnd (F__law_draw [.int w] bag) kk) P := by
  obtain ⟨a, b, c, rfl, h1, h2, h3, h4, h5⟩ := hb
  rw [o__law_draw]
  exists bnd_ok
  refine wp_d (fun q => ?_) fun q => ?_
  · exists bnd_ok
    exact k _ _ (fm_lo _ hw) (fm_hi _ hw) ⟨a.fdiv w, b, c + 1, rfl, Int.fdiv_nonneg h1 (by omega), h2, h3, by omega, by omega⟩
  · have q1 := fm_lo (b + 104593 * (c + 1)) (j := 59951) (by decide)
    have q2 := fm_hi (b + 104593 * (c + 1)) (j := 59951) (by decide)
    exists bnd_ok
    exact k _ _ (fm_lo _ hw) (fm_hi _ hw) ⟨a, _, c + 1, rfl, h1, fm_lo _ (by decide), Int.lt_trans (fm_hi _ (by decide)) (by decide), by omega, by omega⟩
theorem wp_one {xs : List D} (hb : BagOk n bag) (hn : n < 2 ^ 60) (h0 : 0 < xs.length) (h1 : xs.length < 2 ^ 60) (k : ∀ x d', x ∈ xs → BagOk (n + 1) d' → Wn (kk ((x, false), d')) P) : Wn (bnd (F__law_one [.lst xs] bag) kk) P := by
  rw [o__law_one]
  exists bnd_ok
  refine wp_draw hb hn (by omega) (by omega) fun i d' q1 q2 hb' => ?_
  have e := ix_l q1 q2
  exists e
  exact k _ _ (List.getElem_mem _) hb'
theorem wp_onet {xs : List D} (hb : BagOk n bag) (hn : n < 2 ^ 60) (h0 : 0 < xs.length) (h1 : xs.length < 2 ^ 60) (k : ∀ x d', x ∈ xs → BagOk (n + 1) d' → Wn (kk ((x, false), d')) P) : Wn (bnd (F__law_one [.tup xs] bag) kk) P := by
  rw [o__law_one]
  exists bnd_ok
  refine wp_draw hb hn (by omega) (by omega) fun i d' q1 q2 hb' => ?_
  have e := ix_t q1 q2
  exists e
  exact k _ _ (List.getElem_mem _) hb'
theorem wp_ones {xs : List Nat} (hb : BagOk n bag) (hn : n < 2 ^ 60) (h0 : 0 < xs.length) (h1 : xs.length ≤ 1000) (k : ∀ x d', x ∈ xs → BagOk (n + 1) d' → Wn (kk ((.str [x], false), d')) P) : Wn (bnd (F__law_one [.str xs] bag) kk) P := by
  rw [o__law_one]
  exists bnd_ok
  refine wp_draw hb hn (by omega) (by omega) fun i d' q1 q2 hb' => ?_
  have e := ix_s (by omega) q1 q2
  exists e
  exact k _ _ (List.getElem_mem _) hb'
theorem wp_bag {ns : List Int} {k : Int} {kk : Rv → R γ} (hk : 0 ≤ k) (hk2 : k ≤ 63) (h : ∀ d, BagOk 0 d → Wn (kk (d, true)) P) : Wn (bnd (F__law_bag [.fls (ns.map D.int), .int k]) kk) P := by
  rw [o__law_bag]
  have loop : ∀ (cell seed : Int), 0 ≤ seed → seed < 2147483648 → Wn (bnd (forGo (gN 4) mt__law_bag_1 (cut (ns.map D.int) none (some 7)) [.sh (.fls (ns.map D.int)), .sh (.int k), .sh (.int cell), .sh (.int seed), .un, .un]) fun x => bnd (bnd (seqk mt__law_bag_2 x.1 x.2) fun r => endOf r.1) kk) P := fun cell seed s1 s2 => by
    rw [cut_map]
    refine wp_for (fun _ ρ => ∃ (seed : Int) (s : Slot), ρ = [.sh (.fls (ns.map D.int)), .sh (.int k), .sh (.int cell), .sh (.int seed), s, .un] ∧ 0 ≤ seed ∧ seed < 2147483648) ⟨seed, _, rfl, s1, s2⟩ (fun _ x ρ _ q => ?_) fun ρ q => ?_
    · obtain ⟨seed, s, rfl, h1, h2⟩ := q
      have q1 := fm_lo x (j := 1000081) (by decide)
      have q2 := fm_hi x (j := 1000081) (by decide)
      exists bnd_ok
      exact ⟨_, _, rfl, fm_lo _ (by decide), Int.lt_trans (fm_hi _ (by decide)) (by decide)⟩
    · obtain ⟨seed, s, rfl, h1, h2⟩ := q
      have ab : 0 ≤ if cell < 0 then -cell else cell := by split <;> omega
      have q1 := fm_lo cell (j := 999907) (by decide)
      have q2 := fm_hi cell (j := 999907) (by decide)
      by_cases z1 : cell < 0
      · exists bnd_ok
        refine h _ ?_; exact ⟨_, _, 0, rfl, ab, fm_lo _ (by decide), Int.lt_trans (fm_hi _ (by decide)) (by decide), by decide, by decide⟩
      · by_cases z2 : 1000000000000000 ≤ cell
        · exists bnd_ok
          refine h _ ?_; exact ⟨_, _, 0, rfl, ab, fm_lo _ (by decide), Int.lt_trans (fm_hi _ (by decide)) (by decide), by decide, by decide⟩
        · exists bnd_ok
          refine h _ ?_; exact ⟨_, _, 0, rfl, by decide, fm_lo _ (by decide), Int.lt_trans (fm_hi _ (by decide)) (by decide), by decide, by decide⟩
  by_cases q : k < ns.length
  · have e := ix_f hk (show k < (ns.map D.int).length by rw [List.length_map]; exact q)
    exists e, List.getElem_map
    exact loop _ _ (by omega) (by omega)
  · exists bnd_ok
    exact loop _ _ (by omega) (by omega)
end
theorem eqR {m : R Rv} {d : D} {b : Bool} (h : ∀ P : D → Bool → Prop, P d b → Wr m P) : m = .ok (d, b) := by
  obtain ⟨⟨d', b'⟩, e, h1, h2⟩ := h (fun x y => x = d ∧ y = b) ⟨rfl, rfl⟩
  dsimp only at h1 h2
  rw [e, h1, h2]

end DY

set_option Elab.async false
set_option linter.all false
set_option maxRecDepth 100000
set_option maxHeartbeats 4000000
namespace DY
local macro_rules | `(tactic| exists $es,*) => do
  let ls ← es.getElems.mapM fun e => `(Lean.Parser.Tactic.simpLemma| $e:term)
  `(tactic| simp -dsimp -implicitDefEqProofs (disch := walk_at "ds") only [bnd_ok, bnd_ex, bnd_bnd, Wn_ok, cnd_t, cnd_f, cnd_n, cnd_p, cnd_q, varG_sh, varG_ow, movG_sh, movG_ow, lookG_sh, lookG_ow, ownG_ow, get_0, get_s, set_0, set_s, ev_var, ev_mov0, ev_look, ev_c, ev_c0, ev_bin, ev_un, ev_bor, ev_borR, ev_bor1, ev_nil, ev_cons, ev_n, ev_if, ev_and, ev_or, notR_bl, ev_not, ev_chain, ev_callR, ev_callT, isIns_ok_, ev_meth, ev_methK, ev_nk, isL_ok, ev_mut, ev_get, ev_getS, intR_i, ev_part0, ev_part1, ev_slice, seqk_nx, seqk_rt, seqk_bk, seqk_ct, ev_seq, ev_next, ev_break, ev_cont, keep_tt, keep_tf, keep_fx, ev_asg, ev_par, ev_gN, ev_gTt, ev_gTk, ev_g0, ev_g1, ev_asgT, ev_expr, ev_ret, ev_retV, ev_retN, ev_sif, ev_for, ev_while, ev_put, ev_fld, fldG_0, fldG_1, fldG_2, fldG_3, fldG_4, fldG_5, fldG_6, end_nx, end_rt, objE_go, ev_iv, items_lst, items_fls, items_tup, items_str, ev_range, rngG_1, rngG_2, keyG_sh, keyG_ow, ev_keys, forE_nx, forE_ct, forE_bk, forE_rt, LK_nx, LK_ct, LK_bk, LK_rt, cndO_none, cndO_some, ev_lc, add_i, add_s, add_l, add_t, add_o, add_o', sub_i, sub_o, sub_o', mul_i, mul_o, mul_o', fdiv_i, mod_i, pow_i, neg_i, neg_o, lt_i, lt_s, le_i, le_s, gt_i, gt_s, ge_i, ge_s, eq_i, eq_s, eq_b, eq_o, eq_o', ne_i, ne_s, ne_b, ne_o, isN_n, isN_i, isN_b, isN_s, isN_t, isN_l, isN_d, isN_o, notN_n, notN_i, notN_b, notN_s, notN_t, notN_l, notN_d, notN_o, sel_t, sel_f, sel1_t, isC_i, isC_n, cc_ii, cc_in, cc_ni, ci_in, ci_ii, ci_n, ic_in, ic_ii, cany_i, cany_o, cany_n, in_c, in_di, in_ds, nin_c, nin_ds, opt_s, ixt_0, ixt_1, ixt_2, ixt_3, ixl_0, ixl_1, ixl_2, ix_ds, ix_di, sl_l, sl_f, sl_t, sl_s, len_l, len_f, len_t, len_d, len_s, len_o, lenD_e, isi_int_i, isi_int_b, isi_bool_b, isi_bool_i, isi_str_s, isi_str_i, isi_str_t, isi_tup_t, isi_tup_i, isi_tup_s, isi_dict_d, isi_int_s, isi_int_t, isi_int_o, isi_o, isi_c_i, isi_c_s, isi_c_t, isi_c_n, abs_i, int_i, max_i, min_i, all_m, any_m, sum_m, tuple_l, tuple_t, list_l, list_t, list_d, dict_d, str_i, str_s, str_o, mkTup_e, mkKey_e, mkLst_e, get_ds, get_di, app_e, put_ds, put_di, put_l0, put_l1, put_l2, fld_0, fld_1, fld_2, fld_3, fld_4, fld_5, fld_6, wipe_0, wipe_s, ev_dc, keyOf_s, keyOf_i, okS_un, okS_sh, okS_us, noOw_0, noOw_s, back_0, back_s, getD_0, getD_s, u_mt__law_bag_1, u_mt__law_bag_2, u_mt__law_bag_3, u_mm__law_bag, u_mm_are_small, u_mm_is_integer, u_mt_are_terms_1, u_mt_are_terms_2, u_mt_are_terms_3, u_mt_are_terms_4, u_mm_are_terms, u_mt_Form___init___1, u_mt_Form___init___2, u_mt_Form___init___3, u_mm_Form___init__, u_mm_form_of, u_mt_Form___add___1, u_mt_Form___add___2, u_mt_Form___add___3, u_mt_Form___add___4, u_mm_Form___add__, u_mm_Form___eq__, u_mm_Form___mul__, u_mm_Form___neg__, u_mt_Form___sub___1, u_mm_Form___sub__, u_mt_shared_factor_1, u_mt_shared_factor_2, u_mm_shared_factor, u_mt_Ratio___init___1, u_mt_Ratio___init___2, u_mt_Ratio___init___3, u_mm_Ratio___init__, u_mm_as_ratio, u_mt_compared_1, u_mm_compared, u_mm_is_above, u_mm_is_fraction, u_mm_are_lengths, u_mt_Ratio___add___1, u_mm_Ratio___add__, u_mt_Ratio___mul___1, u_mm_Ratio___mul__, u_mm_Ratio___rmul__, u_mt_worth_1, u_mt_worth_2, u_mm_worth, u_mm_Form_at, u_mt_Ratio___eq___1, u_mm_Ratio___eq__, u_mt__law_added_1, u_mt__law_added_2, u_mm__law_added, u_mt__law_draw_1, u_mt__law_draw_2, u_mt__law_draw_3, u_mt__law_draw_4, u_mt__law_draw_5, u_mm__law_draw, u_mm__law_one, u_mt__law_drawn_1, u_mt__law_drawn_2, u_mm__law_drawn, u_mm__law_pairs, u_mm__law_due, u_mm__law_shown, u_mt__law_right_1, u_mt__law_right_2, u_mt__law_right_3, u_mt__law_right_4, u_mt__law_right_5, u_mt__law_right_6, u_mt__law_right_7, u_mt__law_right_8, u_mt__law_right_9, u_mt__law_right_10, u_mt__law_right_11, u_mt__law_right_12, u_mt__law_right_13, u_mt__law_right_14, u_mt__law_right_16, u_mt__law_right_17, u_mm__law_right, u_mm_law, decide_true, decide_false, if_true, if_false, Bool.not_true, Bool.not_false, List.length_cons, List.length_nil, Int.cast_ofNat_Int, List.nil_append, List.cons_append, List.append_nil, and_self, and_true, true_and, and_false, false_and, List.length_map, Int.reduceToNat, Int.reducePow, Int.reduceSub, Int.reduceAdd, Int.reduceMul, Int.reduceNeg, $ls,*])
open SL (nm dn gI Bd)
local macro_rules | `(tactic| walk_at "ds") => `(tactic| first | assumption | omega | (simp only [List.length_map, List.length_append, List.length_cons, List.length_nil]; omega) | exact mulOk_n (by omega) (by omega) | exact divOk_b (by omega) (by omega) | (refine id ?_; with_unfolding_all rfl) | (refine id ?_; with_unfolding_all exact Nat.le_of_ble_eq_true rfl) | (simp only [noOw_s, noOw_0, okS_un, okS_sh, okS_us, get_0, get_s, Bool.and_true]; done))
--#NEW
/-! ### ratios -/
@[reducible] def rat (n d : Int) : D := .ins 0 [.int (nm n d), .int (dn n d)]
theorem e_isint {i : Int} : F_is_integer [.int i] = .ok (.bl true, false) := by rw [o_is_integer]; exists bnd_ok
theorem e_isint_o {c : Nat} {fs : List D} : F_is_integer [.ins c fs] = .ok (.bl false, false) := by rw [o_is_integer]; exists e_isint
section
variable {n d n1 d1 n2 d2 m a b s t : Int}
theorem e_factor (hb : 0 < b) (hz : Bd 8000 b) : F_shared_factor [.int a, .int b] = .ok (.int (gI a b), false) := by
  refine Wn.eq ?_
  rw [o_shared_factor]
  exists e_isint, e_isint_o
  refine wp_while (fun ρ : Env => match (ρ[3]? : Option Slot) with | some (.sh (.int l)) => l.toNat | _ => 0) (fun ρ => ∃ x y : Int, ρ = [.sh (.int a), .sh (.int b), .sh (.int x), .sh (.int y)] ∧ 0 ≤ x ∧ 0 ≤ y ∧ gI x y = gI a b ∧ Bd 8000 y) ⟨_, _, rfl, by split <;> omega, by split <;> omega, SL.gI_abs a b, by split; exact hz.neg; exact hz⟩ (fun ρ q => ?_) fun ρ q => ?_
  · obtain ⟨x, y, rfl, _, h2, _, h4⟩ := q
    show y.toNat < 2 ^ 9000
    have : y.toNat ≤ y.natAbs := by omega
    exact Nat.lt_of_le_of_lt this (Nat.lt_of_lt_of_le h4 (Nat.pow_le_pow_right (by decide) (by decide)))
  · obtain ⟨x, y, rfl, h1, h2, h3, h4⟩ := q
    by_cases q : 0 < y
    · exists e_isint, e_isint_o
      have q1 := fm_lo x q
      have q2 := fm_hi x q
      refine ⟨⟨y, _, rfl, h2, q1, by rw [SL.gcd_turn h1 q]; exact h3, h4.of_le (by omega)⟩, ?_⟩
      show (x.fmod y).toNat < y.toNat
      omega
    · have e : y = 0 := by omega
      subst e
      exists e_isint, e_isint_o
      rw [SL.gI_zero h1] at h3
      rw [h3]
theorem fdiv_gI (h : 0 < d) : n.fdiv (gI n d) = nm n d ∧ d.fdiv (gI n d) = dn n d := by
  have g := SL.gI_pos (n := n) (d := d) (by omega)
  unfold nm dn
  exact ⟨Int.fdiv_eq_ediv_of_nonneg _ (by omega), Int.fdiv_eq_ediv_of_nonneg _ (by omega)⟩
theorem divOk_g {j : Int} (h : 0 < j) (hz : Bd 8000 j) : divOk j = true := by
  unfold divOk
  rw [Bool.and_eq_true, decide_eq_true_eq, decide_eq_true_eq]
  refine ⟨by omega, ?_⟩
  have : j.natAbs.log2 < 8000 := (Nat.log2_lt (by omega)).mpr hz
  omega
theorem e_ratio (hd : 0 < d) (hz : Bd 8000 d) : mkObj 0 F_Ratio___init__ [.int n, .int d] = .ok (rat n d, false) := by
  have gp := SL.gI_pos (n := n) (d := d) (by omega)
  have gd : divOk (gI n d) = true := divOk_g gp (hz.of_le (SL.gI_le hd))
  rw [obj_eq, o_Ratio___init__]
  exists e_isint, e_isint_o, e_factor hd hz, (fdiv_gI hd).1, (fdiv_gI hd).2
theorem Bd_n {k : Nat} {j : Int} (hk : 64 ≤ k) (h : j.natAbs ≤ 1000000000000) : Bd k j := SL.Bd.small hk (by omega) (by omega)
theorem bd1 : Bd 8000 1 := Bd_n (by decide) (by decide)
theorem e_asr {fs : List D} : F_as_ratio [.ins 0 fs] = .ok (.ins 0 fs, false) := by rw [o_as_ratio]; exists e_isint, e_isint_o, e_ratio
theorem e_asi : F_as_ratio [.int m] = .ok (rat m 1, false) := by
  have := bd1
  rw [o_as_ratio]; exists e_isint, e_isint_o, e_ratio, e_asr
theorem e_fr {fs : List D} : F_is_fraction [.ins 0 fs] = .ok (.bl true, false) := by rw [o_is_fraction]; exists e_isint, e_isint_o, e_ratio, e_asr, e_asi
theorem e_fri : F_is_fraction [.int m] = .ok (.bl true, false) := by rw [o_is_fraction]; exists e_isint, e_isint_o, e_ratio, e_asr, e_asi, e_fr
theorem Bd.nm (h : Bd 3000 n) : Bd 3000 (nm n d) := h.of_le (SL.nm_natAbs_le n d)
theorem Bd.dn (h : Bd 3000 d) : Bd 3000 (dn n d) := h.of_le (SL.dn_natAbs_le n d)
theorem mulOk_r {a b : Int} (h1 : Bd 3000 a) (h2 : Bd 3000 b) : mulOk a b = true := mulOk_Bd h1 h2 (by decide) (by decide)
theorem rat_eq {a b c e : Int} (h : nm a b = nm c e ∧ dn a b = dn c e) : rat a b = rat c e := by unfold rat; rw [h.1, h.2]
theorem rat_scale {a b c e : Int} (hb : 0 < b) (he : 0 < e) (h : a * e = c * b) : rat a b = rat c e := rat_eq (SL.nm_dn_eq hb he h)
theorem e_add (h1 : 0 < d1) (h2 : 0 < d2) (b1 : Bd 3000 n1) (b2 : Bd 3000 d1) (b3 : Bd 3000 n2) (b4 : Bd 3000 d2) : F_Ratio___add__ [rat n1 d1, rat n2 d2] = .ok (rat (n1 * d2 + n2 * d1) (d1 * d2), false) := by
  have m1 := mulOk_r (Bd.nm (d := d1) b1) (Bd.dn (n := n2) b4)
  have m2 := mulOk_r (Bd.nm (d := d2) b3) (Bd.dn (n := n1) b2)
  have m3 := mulOk_r (Bd.dn (n := n1) b2) (Bd.dn (n := n2) b4)
  have p := Int.mul_pos (SL.dn_pos (n := n1) h1) (SL.dn_pos (n := n2) h2)
  have bp : Bd 8000 (dn n1 d1 * dn n2 d2) := ((Bd.dn b2).mul (Bd.dn b4)).mono (by decide)
  rw [o_Ratio___add__]
  exists e_isint, e_isint_o, e_ratio, e_asr, e_asi, e_fr, e_fri
  rw [rat_eq (SL.low_add h1 h2)]
theorem bd13 : Bd 3000 1 := Bd_n (by decide) (by decide)
theorem rat_int (m : Int) : rat m 1 = .ins 0 [.int m, .int 1] := by unfold rat; rw [(SL.low_int m).1, (SL.low_int m).2]
theorem e_addI (h1 : 0 < d1) (b1 : Bd 3000 n1) (b2 : Bd 3000 d1) (b3 : Bd 3000 m) : F_Ratio___add__ [rat n1 d1, .int m] = .ok (rat (n1 + m * d1) d1, false) := by
  have m1 := mulOk_r (Bd.nm (d := d1) b1) (Bd.dn (n := m) bd13)
  have m2 := mulOk_r (Bd.nm (d := 1) b3) (Bd.dn (n := n1) b2)
  have m3 := mulOk_r (Bd.dn (n := n1) b2) (Bd.dn (n := m) bd13)
  have p := Int.mul_pos (SL.dn_pos (n := n1) h1) (SL.dn_pos (n := m) (d := 1) (by decide))
  have bp : Bd 8000 (dn n1 d1 * dn m 1) := ((Bd.dn b2).mul (Bd.dn bd13)).mono (by decide)
  rw [o_Ratio___add__]
  exists e_isint, e_isint_o, e_ratio, e_asr, e_asi, e_fr, e_fri
  rw [rat_eq (SL.low_add h1 (by decide)), Int.mul_one, Int.mul_one]
theorem e_mul (h1 : 0 < d1) (h2 : 0 < d2) (b1 : Bd 3000 n1) (b2 : Bd 3000 d1) (b3 : Bd 3000 n2) (b4 : Bd 3000 d2) : F_Ratio___mul__ [rat n1 d1, rat n2 d2] = .ok (rat (n1 * n2) (d1 * d2), false) := by
  have m1 := mulOk_r (Bd.nm (d := d1) b1) (Bd.nm (d := d2) b3)
  have m3 := mulOk_r (Bd.dn (n := n1) b2) (Bd.dn (n := n2) b4)
  have p := Int.mul_pos (SL.dn_pos (n := n1) h1) (SL.dn_pos (n := n2) h2)
  have bp : Bd 8000 (dn n1 d1 * dn n2 d2) := ((Bd.dn b2).mul (Bd.dn b4)).mono (by decide)
  rw [o_Ratio___mul__]
  exists e_isint, e_isint_o, e_ratio, e_asr, e_asi, e_fr, e_fri
  rw [rat_eq (SL.low_mul h1 h2)]
theorem e_mulI (h1 : 0 < d1) (b1 : Bd 3000 n1) (b2 : Bd 3000 d1) (b3 : Bd 3000 m) : F_Ratio___mul__ [rat n1 d1, .int m] = .ok (rat (n1 * m) d1, false) := by
  have m1 := mulOk_r (Bd.nm (d := d1) b1) (Bd.nm (d := 1) b3)
  have m3 := mulOk_r (Bd.dn (n := n1) b2) (Bd.dn (n := m) bd13)
  have p := Int.mul_pos (SL.dn_pos (n := n1) h1) (SL.dn_pos (n := m) (d := 1) (by decide))
  have bp : Bd 8000 (dn n1 d1 * dn m 1) := ((Bd.dn b2).mul (Bd.dn bd13)).mono (by decide)
  rw [o_Ratio___mul__]
  exists e_isint, e_isint_o, e_ratio, e_asr, e_asi, e_fr, e_fri
  rw [rat_eq (SL.low_mul h1 (by decide)), Int.mul_one]
theorem e_eq (h1 : 0 < d1) (h2 : 0 < d2) : F_Ratio___eq__ [rat n1 d1, rat n2 d2] = .ok (.bl (decide (n1 * d2 = n2 * d1)), false) := by
  have e := SL.low_eq (n1 := n1) (n2 := n2) h1 h2
  rw [o_Ratio___eq__]
  by_cases q : nm n1 d1 = nm n2 d2
  · rw [decide_eq_true q, Bool.true_and] at e
    rw [← e]
    exists e_isint, e_isint_o, e_ratio, e_asr, e_asi, e_fr, e_fri
  · rw [decide_eq_false q, Bool.false_and] at e
    rw [← e]
    exists e_isint, e_isint_o, e_ratio, e_asr, e_asi, e_fr, e_fri
theorem e_cmp (h1 : 0 < d1) (h2 : 0 < d2) (b1 : Bd 3000 n1) (b2 : Bd 3000 d1) (b3 : Bd 3000 n2) (b4 : Bd 3000 d2) : F_compared [rat n1 d1, rat n2 d2] = .ok (.int (SL.cmpI (n1 * d2) (n2 * d1)), false) := by
  have m1 := mulOk_r (Bd.nm (d := d1) b1) (Bd.dn (n := n2) b4)
  have m2 := mulOk_r (Bd.nm (d := d2) b3) (Bd.dn (n := n1) b2)
  rw [← SL.low_cmp h1 h2]
  unfold SL.cmpI
  rw [o_compared]
  by_cases q : nm n1 d1 * dn n2 d2 = nm n2 d2 * dn n1 d1
  · exists e_isint, e_isint_o, e_ratio, e_asr, e_asi, e_fr, e_fri
    rw [if_pos q]
  · by_cases q2 : nm n1 d1 * dn n2 d2 < nm n2 d2 * dn n1 d1
    · exists e_isint, e_isint_o, e_ratio, e_asr, e_asi, e_fr, e_fri
      rw [if_neg q, if_pos q2]
    · exists e_isint, e_isint_o, e_ratio, e_asr, e_asi, e_fr, e_fri
      rw [if_neg q, if_neg q2]
theorem cmp_pos (x y : Int) : (0 < SL.cmpI x y) ↔ y < x := by unfold SL.cmpI; split <;> (try split) <;> omega
theorem e_above (h1 : 0 < d1) (h2 : 0 < d2) (b1 : Bd 3000 n1) (b2 : Bd 3000 d1) (b3 : Bd 3000 n2) (b4 : Bd 3000 d2) : F_is_above [rat n1 d1, rat n2 d2] = .ok (.bl (decide (n2 * d1 < n1 * d2)), false) := by
  rw [o_is_above]
  exists e_isint, e_isint_o, e_ratio, e_asr, e_asi, e_fr, e_fri, e_cmp h1 h2 b1 b2 b3 b4, decide_eq_decide.mpr (cmp_pos _ _)
theorem e_aboveR (h1 : 0 < d1) (b1 : Bd 3000 n1) (b2 : Bd 3000 d1) (b3 : Bd 3000 m) : F_is_above [rat n1 d1, .int m] = .ok (.bl (decide (m * d1 < n1)), false) := by
  rw [o_is_above]
  exists e_isint, e_isint_o, e_ratio, e_asr, e_asi, e_fr, e_fri, e_cmp h1 (by decide) b1 b2 b3 bd13, decide_eq_decide.mpr (cmp_pos _ _), Int.mul_one
theorem e_aboveL (h1 : 0 < d1) (b1 : Bd 3000 n1) (b2 : Bd 3000 d1) (b3 : Bd 3000 m) : F_is_above [.int m, rat n1 d1] = .ok (.bl (decide (n1 < m * d1)), false) := by
  rw [o_is_above]
  exists e_isint, e_isint_o, e_ratio, e_asr, e_asi, e_fr, e_fri, e_cmp (by decide) h1 b3 bd13 b1 b2, decide_eq_decide.mpr (cmp_pos _ _), Int.mul_one
end

end DY

set_option Elab.async false
set_option linter.all false
set_option maxRecDepth 100000
set_option maxHeartbeats 4000000
namespace DY
local macro_rules | `(tactic| exists $es,*) => do
  let ls ← es.getElems.mapM fun e => `(Lean.Parser.Tactic.simpLemma| $e:term)
  `(tactic| simp -dsimp -implicitDefEqProofs (disch := walk_at "ds") only [bnd_ok, bnd_ex, bnd_bnd, Wn_ok, cnd_t, cnd_f, cnd_n, cnd_p, cnd_q, varG_sh, varG_ow, movG_sh, movG_ow, lookG_sh, lookG_ow, ownG_ow, get_0, get_s, set_0, set_s, ev_var, ev_mov0, ev_look, ev_c, ev_c0, ev_bin, ev_un, ev_bor, ev_borR, ev_bor1, ev_nil, ev_cons, ev_n, ev_if, ev_and, ev_or, notR_bl, ev_not, ev_chain, ev_callR, ev_callT, isIns_ok_, ev_meth, ev_methK, ev_nk, isL_ok, ev_mut, ev_get, ev_getS, intR_i, ev_part0, ev_part1, ev_slice, seqk_nx, seqk_rt, seqk_bk, seqk_ct, ev_seq, ev_next, ev_break, ev_cont, keep_tt, keep_tf, keep_fx, ev_asg, ev_par, ev_gN, ev_gTt, ev_gTk, ev_g0, ev_g1, ev_asgT, ev_expr, ev_ret, ev_retV, ev_retN, ev_sif, ev_for, ev_while, ev_put, ev_fld, fldG_0, fldG_1, fldG_2, fldG_3, fldG_4, fldG_5, fldG_6, end_nx, end_rt, objE_go, ev_iv, items_lst, items_fls, items_tup, items_str, ev_range, rngG_1, rngG_2, keyG_sh, keyG_ow, ev_keys, forE_nx, forE_ct, forE_bk, forE_rt, LK_nx, LK_ct, LK_bk, LK_rt, cndO_none, cndO_some, ev_lc, add_i, add_s, add_l, add_t, add_o, add_o', sub_i, sub_o, sub_o', mul_i, mul_o, mul_o', fdiv_i, mod_i, pow_i, neg_i, neg_o, lt_i, lt_s, le_i, le_s, gt_i, gt_s, ge_i, ge_s, eq_i, eq_s, eq_b, eq_o, eq_o', ne_i, ne_s, ne_b, ne_o, isN_n, isN_i, isN_b, isN_s, isN_t, isN_l, isN_d, isN_o, notN_n, notN_i, notN_b, notN_s, notN_t, notN_l, notN_d, notN_o, sel_t, sel_f, sel1_t, isC_i, isC_n, cc_ii, cc_in, cc_ni, ci_in, ci_ii, ci_n, ic_in, ic_ii, cany_i, cany_o, cany_n, in_c, in_di, in_ds, nin_c, nin_ds, opt_s, ixt_0, ixt_1, ixt_2, ixt_3, ixl_0, ixl_1, ixl_2, ix_ds, ix_di, sl_l, sl_f, sl_t, sl_s, len_l, len_f, len_t, len_d, len_s, len_o, lenD_e, isi_int_i, isi_int_b, isi_bool_b, isi_bool_i, isi_str_s, isi_str_i, isi_str_t, isi_tup_t, isi_tup_i, isi_tup_s, isi_dict_d, isi_int_s, isi_int_t, isi_int_o, isi_o, isi_c_i, isi_c_s, isi_c_t, isi_c_n, abs_i, int_i, max_i, min_i, all_m, any_m, sum_m, tuple_l, tuple_t, list_l, list_t, list_d, dict_d, str_i, str_s, str_o, mkTup_e, mkKey_e, mkLst_e, get_ds, get_di, app_e, put_ds, put_di, put_l0, put_l1, put_l2, fld_0, fld_1, fld_2, fld_3, fld_4, fld_5, fld_6, wipe_0, wipe_s, ev_dc, keyOf_s, keyOf_i, okS_un, okS_sh, okS_us, noOw_0, noOw_s, back_0, back_s, getD_0, getD_s, u_mt__law_bag_1, u_mt__law_bag_2, u_mt__law_bag_3, u_mm__law_bag, u_mm_are_small, u_mm_is_integer, u_mt_are_terms_1, u_mt_are_terms_2, u_mt_are_terms_3, u_mt_are_terms_4, u_mm_are_terms, u_mt_Form___init___1, u_mt_Form___init___2, u_mt_Form___init___3, u_mm_Form___init__, u_mm_form_of, u_mt_Form___add___1, u_mt_Form___add___2, u_mt_Form___add___3, u_mt_Form___add___4, u_mm_Form___add__, u_mm_Form___eq__, u_mm_Form___mul__, u_mm_Form___neg__, u_mt_Form___sub___1, u_mm_Form___sub__, u_mt_shared_factor_1, u_mt_shared_factor_2, u_mm_shared_factor, u_mt_Ratio___init___1, u_mt_Ratio___init___2, u_mt_Ratio___init___3, u_mm_Ratio___init__, u_mm_as_ratio, u_mt_compared_1, u_mm_compared, u_mm_is_above, u_mm_is_fraction, u_mm_are_lengths, u_mt_Ratio___add___1, u_mm_Ratio___add__, u_mt_Ratio___mul___1, u_mm_Ratio___mul__, u_mm_Ratio___rmul__, u_mt_worth_1, u_mt_worth_2, u_mm_worth, u_mm_Form_at, u_mt_Ratio___eq___1, u_mm_Ratio___eq__, u_mt__law_added_1, u_mt__law_added_2, u_mm__law_added, u_mt__law_draw_1, u_mt__law_draw_2, u_mt__law_draw_3, u_mt__law_draw_4, u_mt__law_draw_5, u_mm__law_draw, u_mm__law_one, u_mt__law_drawn_1, u_mt__law_drawn_2, u_mm__law_drawn, u_mm__law_pairs, u_mm__law_due, u_mm__law_shown, u_mt__law_right_1, u_mt__law_right_2, u_mt__law_right_3, u_mt__law_right_4, u_mt__law_right_5, u_mt__law_right_6, u_mt__law_right_7, u_mt__law_right_8, u_mt__law_right_9, u_mt__law_right_10, u_mt__law_right_11, u_mt__law_right_12, u_mt__law_right_13, u_mt__law_right_14, u_mt__law_right_16, u_mt__law_right_17, u_mm__law_right, u_mm_law, e_isint, e_isint_o, e_ratio, e_asr, e_asi, e_fr, e_fri, decide_true, decide_false, if_true, if_false, Bool.not_true, Bool.not_false, List.length_cons, List.length_nil, Int.cast_ofNat_Int, List.nil_append, List.cons_append, List.append_nil, and_self, and_true, true_and, and_false, false_and, List.length_map, Int.reduceToNat, Int.reducePow, Int.reduceSub, Int.reduceAdd, Int.reduceMul, Int.reduceNeg, $ls,*])
open SL (nm dn gI Bd)
local macro_rules | `(tactic| walk_at "ds") => `(tactic| first | assumption | omega | (simp only [List.length_map, List.length_append, List.length_cons, List.length_nil]; omega) | exact mulOk_n (by omega) (by omega) | exact divOk_b (by omega) (by omega) | (refine id ?_; with_unfolding_all rfl) | (refine id ?_; with_unfolding_all exact Nat.le_of_ble_eq_true rfl) | (simp only [noOw_s, noOw_0, okS_un, okS_sh, okS_us, get_0, get_s, Bool.and_true]; done))
--#NEW
/-! ### letters -/
theorem ltN1 (a b : Nat) : ltN [a] [b] = decide (a < b) := by simp [ltN]
def lowS (s : List Nat) : Bool := s.all fun c => decide (97 ≤ c) && decide (c ≤ 122)
def uppS (s : List Nat) : Bool := s.all fun c => decide (65 ≤ c) && decide (c ≤ 90)
theorem fm_some {α : Type} (f : α → Bool) (xs : List α) : xs.filterMap (fun x => some (D.bl (f x))) = (xs.map f).map D.bl := by
  rw [List.filterMap_eq_map']; simp
theorem all_id {α : Type} (f : α → Bool) (xs : List α) : (xs.map f).all id = xs.all f := by rw [List.all_map]; rfl
theorem any_id {α : Type} (f : α → Bool) (xs : List α) : (xs.map f).any id = xs.any f := by rw [List.any_map]; rfl
theorem e_low {s : List Nat} {a b : Int} (hs : s.length ≤ 1000) (h1 : a ≤ s.length) (h2 : s.length ≤ b) : F_are_small [.str s, .int a, .int b] = .ok (.bl (lowS s), false) := by
  rw [o_are_small]
  exists ltN1
  rw [lc_eq (fun c => some (.bl (decide (97 ≤ c) && decide (c ≤ 122)))) rfl hs (fun x _ => ⟨[.sh (.str s), .sh (.int a), .sh (.int b), .sh (.str [x])], ?_, rfl, rfl⟩), fm_some]
  · exists ltN1
    rw [all_id]; rfl
  · by_cases q : 97 ≤ x
    · exists ltN1
      have : ¬ x < 97 := by omega
      rw [decide_eq_true q, ← decide_not, Bool.true_and, decide_eq_decide.mpr (show ¬ 122 < x ↔ x ≤ 122 by omega)]
    · have : x < 97 := by omega
      exists ltN1
      rw [decide_eq_false q]; rfl
theorem e_low_f {s : List Nat} {a b : Int} (hs : s.length ≤ 1000) (h : ¬ (a ≤ s.length ∧ s.length ≤ b)) : F_are_small [.str s, .int a, .int b] = .ok (.bl false, false) := by
  rw [o_are_small]
  by_cases h1 : a ≤ s.length
  · exists ltN1
  · exists ltN1
theorem e_low1 {c : Nat} (h1 : 97 ≤ c) (h2 : c ≤ 122) : F_are_small [.str [c], .int 1, .int 1] = .ok (.bl true, false) := by
  rw [e_low (by simp : [c].length ≤ 1000) (by simp) (by simp)]
  unfold lowS
  rw [List.all_cons, decide_eq_true h1, decide_eq_true h2]; rfl
/-! ### forms -/
structure TmOk (t : Nm) : Prop where
  pw : t.Pairwise (fun p q => p.1 < q.1)
  lt : ∀ p ∈ t, 97 ≤ p.1 ∧ p.1 ≤ 122
  nz : ∀ p ∈ t, p.2 ≠ 0
  len : t.length ≤ 26
theorem canon_tm (f : Nat → Int) : TmOk (canon f) := ⟨canon_pw f, fun p hp => (mem_canon.mp hp).1, fun p hp => by rw [(mem_canon.mp hp).2.2]; exact (mem_canon.mp hp).2.1, by
  unfold canon
  refine Nat.le_trans (List.length_filterMap_le ..) ?_
  rw [List.length_range']; decide⟩
section
variable {t : Nm} {c k : Int} {f f' : Nat → Int}
theorem e_terms (ht : TmOk t) : F_are_terms [tmD t] = .ok (.bl true, false) := by
  refine Wn.eq ?_
  rw [o_are_terms]
  exists ltN1
  refine wp_for (fun k ρ => ∃ b s, ρ = [.sh (tmD t), .sh (.str b), s] ∧ (b = [] ∨ ∃ c, b = [c] ∧ ∀ p ∈ t.drop k, c < p.1)) ⟨[], _, rfl, .inl rfl⟩ (fun k x ρ hx q => ?_) fun ρ q => ?_
  · obtain ⟨b, s, rfl, hb⟩ := q
    have mem := List.mem_of_getElem? hx
    have dr : t.drop k = x :: t.drop (k + 1) := by
      obtain ⟨hl, e⟩ := List.getElem?_eq_some_iff.mp hx
      rw [List.drop_eq_getElem_cons hl, e]
    have hlt := ht.lt x mem
    have hz := ht.nz x mem
    have lb : ltN b [x.1] = true := by
      rcases hb with rfl | ⟨c, rfl, hc⟩
      · rfl
      · rw [ltN1]; exact decide_eq_true (hc x (by rw [dr]; exact List.mem_cons_self ..))
    exists ltN1, e_low1 hlt.1 hlt.2, lb
    refine ⟨_, _, rfl, .inr ⟨x.1, rfl, ?_⟩⟩
    have := ht.pw.drop (i := k)
    rw [dr, List.pairwise_cons] at this
    exact this.1
  · obtain ⟨b, s, rfl, _⟩ := q
    exists ltN1
theorem strs_codes (xs : List Nat) : strsOf (xs.map fun c => D.str [c]) = .ok (xs.map fun c => [c]) := by
  have := strs_map (xs.map fun c => [c])
  rwa [List.map_map] at this
theorem flat_codes (xs : List Nat) : joinS [] (xs.map fun c => [c]) = xs := by
  cases xs with
  | nil => rfl
  | cons x xs =>
    show (xs.map fun c => [c]).foldl (fun acc y => acc ++ [] ++ y) [x] = x :: xs
    have : ∀ (xs acc : List Nat), (xs.map fun c => [c]).foldl (fun acc y => acc ++ [] ++ y) acc = acc ++ xs := fun xs => by
      induction xs with
      | nil => intro acc; simp
      | cons x xs ih => intro acc; rw [List.map_cons, List.foldl_cons, ih]; simp
    rw [this]; rfl
theorem sum_len1 (xs : List Nat) : ((xs.map fun c => [c]).map (·.length)).sum = xs.length := by
  induction xs with
  | nil => rfl
  | cons x xs ih => rw [List.map_cons, List.map_cons, List.sum_cons, ih, List.length_cons]; simp; omega
theorem e_join {xs : List Nat} (hl : xs.length ≤ 1000) : joinB (.str []) (.lst (xs.map fun c => D.str [c])) = .ok (.str xs, false) := by
  unfold joinB joinD
  dsimp only
  rw [strs_codes]
  show (if ((xs.map fun c => [c]).map (·.length)).sum + (xs.map fun c => [c]).length * ([] : List Nat).length ≤ 100000 then str_ (joinS [] (xs.map fun c => [c])) else .no) = _
  rw [sum_len1, if_pos (by simp; omega), flat_codes]; rfl
theorem fm_map {α : Type} (f : α → D) (xs : List α) : xs.filterMap (fun x => some (f x)) = xs.map f := congrFun List.filterMap_eq_map' xs
theorem e_form : mkObj 1 F_Form___init__ [.int c, tmD (canon f)] = .ok (fm c f, false) := by
  have ht := canon_tm f
  have hl := ht.len
  rw [obj_eq, o_Form___init__]
  exists ltN1, e_terms ht
  rw [lc_eq (fun p => some (.str [p.1])) rfl (by omega) (fun x _ => ⟨[.ow (.ins 1 [.int c, tmD (canon f)]), .sh (.int c), .sh (tmD (canon f)), .sh (prD x)], ?_, rfl, rfl⟩), fm_map]
  · have e : (canon f).map (fun p => D.str [p.1]) = (fmN f).map fun c => D.str [c] := by unfold fmN; rw [List.map_map]; rfl
    rw [e]
    exists ltN1, e_join (show (fmN f).length ≤ 1000 by unfold fmN; rw [List.length_map]; omega)
  · exists ltN1
end
section
variable {L : Nat} {B : Int} {m m' : Nm} {c k : Int} {f f' : Nat → Int}
theorem keys_dD (m : Nm) : ((m.map kvD).map fun kv => kyD kv.1) = m.map fun p => D.str [p.1] := by
  rw [List.map_map]; rfl
theorem e_sorted (hm : NmOk L B m) (hl : L < 64) : ∃ ys : List Nat, sortedD [.lst (m.map fun p => D.str [p.1])] = .ok (.lst (ys.map fun c => D.str [c]), true) ∧ (∀ c, c ∈ ys ↔ c ∈ m.map (·.1)) ∧ ys.Pairwise (· < ·) ∧ ys.length ≤ L := by
  obtain ⟨ys, e1, e2, e3⟩ := sort_codes hm
  have ly : ys.length = m.length := by
    have := (sortS_perm (m.map fun p => [p.1])).length_eq
    rw [e1, List.length_map, List.length_map] at this
    exact this
  have hml := hm.len
  have es : strsOf (m.map fun p => D.str [p.1]) = .ok (m.map fun p => [p.1]) := by
    have := strs_codes (m.map (·.1))
    rw [List.map_map, List.map_map] at this
    exact this
  refine ⟨ys, ?_, e2, e3, by omega⟩
  unfold sortedD
  dsimp only
  rw [es]
  show (if (m.map fun p => [p.1]).length < 64 then R.ok (D.lst ((sortS (m.map fun p => [p.1])).map D.str), true) else .no) = _
  rw [if_pos (by rw [List.length_map]; omega), e1, List.map_map]; rfl
theorem terms_of (hm : NmOk L B m) {ys : List Nat} (h1 : ∀ c, c ∈ ys ↔ c ∈ m.map (·.1)) (h2 : ys.Pairwise (· < ·)) : ys.filterMap (fun c => if ng m c = 0 then none else some (prD (c, ng m c))) = (canon (ng m)).map prD := by
  rw [← canon_of hm h1 h2, List.map_filterMap]
  congr 1
  funext c
  split <;> rfl
theorem ng_key {ys : List Nat} (h1 : ∀ c, c ∈ ys ↔ c ∈ m.map (·.1)) {c : Nat} (hc : c ∈ ys) : dget (m.map kvD) (.inr [c]) = some (.int (ng m c)) := by
  rw [dget_dD]
  unfold ng
  cases e : nO m c with
  | none => exact absurd ((h1 c).mp hc) (nO_none e)
  | some v => rfl
theorem e_formof (hm : NmOk L B m) (hl : L < 64) : F_form_of [.int c, dD m] = .ok (fm c (ng m), false) := by
  have hml := hm.len
  obtain ⟨ys, es, h1, h2, h3⟩ := e_sorted hm hl
  rw [o_form_of]
  exists ltN1, keys_dD
  rw [lc_eq (fun p => some (.str [p.1])) rfl (by omega) (fun x _ => ⟨[.sh (.int c), .sh (dD m), .un, .sh (.str [x.1])], ?_, rfl, rfl⟩), fm_map]
  · exists ltN1, es
    rw [lc_eq (fun c => if ng m c = 0 then none else some (prD (c, ng m c))) rfl (by omega) (fun x hx => ⟨[.sh (.int c), .sh (dD m), .sh (.lst (ys.map fun c => D.str [c])), .sh (.str [x])], ?_, rfl, rfl⟩), terms_of hm h1 h2]
    · exists ltN1, e_form
    · by_cases q : ng m x = 0
      · exists ltN1, ng_key h1 hx
        rw [if_pos q]
      · exists ltN1, ng_key h1 hx
        rw [if_neg q]
  · exists ltN1
end

end DY

set_option Elab.async false
set_option linter.all false
set_option maxRecDepth 100000
set_option maxHeartbeats 4000000
namespace DY
local macro_rules | `(tactic| exists $es,*) => do
  let ls ← es.getElems.mapM fun e => `(Lean.Parser.Tactic.simpLemma| $e:term)
  `(tactic| simp -dsimp -implicitDefEqProofs (disch := walk_at "ds") only [bnd_ok, bnd_ex, bnd_bnd, Wn_ok, cnd_t, cnd_f, cnd_n, cnd_p, cnd_q, varG_sh, varG_ow, movG_sh, movG_ow, lookG_sh, lookG_ow, ownG_ow, get_0, get_s, set_0, set_s, ev_var, ev_mov0, ev_look, ev_c, ev_c0, ev_bin, ev_un, ev_bor, ev_borR, ev_bor1, ev_nil, ev_cons, ev_n, ev_if, ev_and, ev_or, notR_bl, ev_not, ev_chain, ev_callR, ev_callT, isIns_ok_, ev_meth, ev_methK, ev_nk, isL_ok, ev_mut, ev_get, ev_getS, intR_i, ev_part0, ev_part1, ev_slice, seqk_nx, seqk_rt, seqk_bk, seqk_ct, ev_seq, ev_next, ev_break, ev_cont, keep_tt, keep_tf, keep_fx, ev_asg, ev_par, ev_gN, ev_gTt, ev_gTk, ev_g0, ev_g1, ev_asgT, ev_expr, ev_ret, ev_retV, ev_retN, ev_sif, ev_for, ev_while, ev_put, ev_fld, fldG_0, fldG_1, fldG_2, fldG_3, fldG_4, fldG_5, fldG_6, end_nx, end_rt, objE_go, ev_iv, items_lst, items_fls, items_tup, items_str, ev_range, rngG_1, rngG_2, keyG_sh, keyG_ow, ev_keys, forE_nx, forE_ct, forE_bk, forE_rt, LK_nx, LK_ct, LK_bk, LK_rt, cndO_none, cndO_some, ev_lc, add_i, add_s, add_l, add_t, add_o, add_o', sub_i, sub_o, sub_o', mul_i, mul_o, mul_o', fdiv_i, mod_i, pow_i, neg_i, neg_o, lt_i, lt_s, le_i, le_s, gt_i, gt_s, ge_i, ge_s, eq_i, eq_s, eq_b, eq_o, eq_o', ne_i, ne_s, ne_b, ne_o, isN_n, isN_i, isN_b, isN_s, isN_t, isN_l, isN_d, isN_o, notN_n, notN_i, notN_b, notN_s, notN_t, notN_l, notN_d, notN_o, sel_t, sel_f, sel1_t, isC_i, isC_n, cc_ii, cc_in, cc_ni, ci_in, ci_ii, ci_n, ic_in, ic_ii, cany_i, cany_o, cany_n, in_c, in_di, in_ds, nin_c, nin_ds, opt_s, ixt_0, ixt_1, ixt_2, ixt_3, ixl_0, ixl_1, ixl_2, ix_ds, ix_di, sl_l, sl_f, sl_t, sl_s, len_l, len_f, len_t, len_d, len_s, len_o, lenD_e, isi_int_i, isi_int_b, isi_bool_b, isi_bool_i, isi_str_s, isi_str_i, isi_str_t, isi_tup_t, isi_tup_i, isi_tup_s, isi_dict_d, isi_int_s, isi_int_t, isi_int_o, isi_o, isi_c_i, isi_c_s, isi_c_t, isi_c_n, abs_i, int_i, max_i, min_i, all_m, any_m, sum_m, tuple_l, tuple_t, list_l, list_t, list_d, dict_d, str_i, str_s, str_o, mkTup_e, mkKey_e, mkLst_e, get_ds, get_di, app_e, put_ds, put_di, put_l0, put_l1, put_l2, fld_0, fld_1, fld_2, fld_3, fld_4, fld_5, fld_6, wipe_0, wipe_s, ev_dc, keyOf_s, keyOf_i, okS_un, okS_sh, okS_us, noOw_0, noOw_s, back_0, back_s, getD_0, getD_s, u_mt__law_bag_1, u_mt__law_bag_2, u_mt__law_bag_3, u_mm__law_bag, u_mm_are_small, u_mm_is_integer, u_mt_are_terms_1, u_mt_are_terms_2, u_mt_are_terms_3, u_mt_are_terms_4, u_mm_are_terms, u_mt_Form___init___1, u_mt_Form___init___2, u_mt_Form___init___3, u_mm_Form___init__, u_mm_form_of, u_mt_Form___add___1, u_mt_Form___add___2, u_mt_Form___add___3, u_mt_Form___add___4, u_mm_Form___add__, u_mm_Form___eq__, u_mm_Form___mul__, u_mm_Form___neg__, u_mt_Form___sub___1, u_mm_Form___sub__, u_mt_shared_factor_1, u_mt_shared_factor_2, u_mm_shared_factor, u_mt_Ratio___init___1, u_mt_Ratio___init___2, u_mt_Ratio___init___3, u_mm_Ratio___init__, u_mm_as_ratio, u_mt_compared_1, u_mm_compared, u_mm_is_above, u_mm_is_fraction, u_mm_are_lengths, u_mt_Ratio___add___1, u_mm_Ratio___add__, u_mt_Ratio___mul___1, u_mm_Ratio___mul__, u_mm_Ratio___rmul__, u_mt_worth_1, u_mt_worth_2, u_mm_worth, u_mm_Form_at, u_mt_Ratio___eq___1, u_mm_Ratio___eq__, u_mt__law_added_1, u_mt__law_added_2, u_mm__law_added, u_mt__law_draw_1, u_mt__law_draw_2, u_mt__law_draw_3, u_mt__law_draw_4, u_mt__law_draw_5, u_mm__law_draw, u_mm__law_one, u_mt__law_drawn_1, u_mt__law_drawn_2, u_mm__law_drawn, u_mm__law_pairs, u_mm__law_due, u_mm__law_shown, u_mt__law_right_1, u_mt__law_right_2, u_mt__law_right_3, u_mt__law_right_4, u_mt__law_right_5, u_mt__law_right_6, u_mt__law_right_7, u_mt__law_right_8, u_mt__law_right_9, u_mt__law_right_10, u_mt__law_right_11, u_mt__law_right_12, u_mt__law_right_13, u_mt__law_right_14, u_mt__law_right_16, u_mt__law_right_17, u_mm__law_right, u_mm_law, e_isint, e_isint_o, e_ratio, e_asr, e_asi, e_fr, e_fri, ltN1, decide_true, decide_false, if_true, if_false, Bool.not_true, Bool.not_false, List.length_cons, List.length_nil, Int.cast_ofNat_Int, List.nil_append, List.cons_append, List.append_nil, and_self, and_true, true_and, and_false, false_and, List.length_map, Int.reduceToNat, Int.reducePow, Int.reduceSub, Int.reduceAdd, Int.reduceMul, Int.reduceNeg, $ls,*])
open SL (nm dn gI Bd)
local macro_rules | `(tactic| walk_at "ds") => `(tactic| first | assumption | omega | (simp only [List.length_map, List.length_append, List.length_cons, List.length_nil]; omega) | exact mulOk_n (by omega) (by omega) | exact divOk_b (by omega) (by omega) | (refine id ?_; with_unfolding_all rfl) | (refine id ?_; with_unfolding_all exact Nat.le_of_ble_eq_true rfl) | (simp only [noOw_s, noOw_0, okS_un, okS_sh, okS_us, get_0, get_s, Bool.and_true]; done))
--#NEW
/-! ### reckoning with forms -/
section
variable {L L' : Nat} {B B' B'' : Int} {m m' : Nm} {c c' k : Int} {f f' : Nat → Int}
theorem getD_dD (m : Nm) (c : Nat) : (dget (m.map kvD) (.inr [c])).getD (.int 0) = .int (ng m c) := by
  rw [dget_dD]; unfold ng
  cases nO m c <;> rfl
theorem e_dictT {t : Nm} (ht : NmOk L B t) (hl : L ≤ 1000) : dictD [tmD t] = .ok (dD t, true) := by
  show (do let kvs ← pairs (t.map prD); if kvs.length ≤ 1000 then R.ok (D.dic (merge [] kvs), true) else .no) = _
  rw [pairs_tm]
  have := ht.len
  show (if (t.map kvD).length ≤ 1000 then R.ok (D.dic (merge [] (t.map kvD)), true) else .no) = _
  rw [List.length_map, if_pos (by omega)]
  have e : merge [] (t.map kvD) = t.map kvD := by
    have := merge_dD [] t
    rw [fold_nput t [] ht.nd] at this
    exact this
  rw [e]
theorem canon_bd (hf : ∀ x, -B ≤ f x ∧ f x ≤ B) (hB : 0 ≤ B) (x : Nat) : -B ≤ ng (canon f) x ∧ ng (canon f) x ≤ B := (canon_ok hf).ng_bd hB x
theorem e_faddI : F_Form___add__ [fm c f, .int k] = .ok (fm (c + k) f, false) := by rw [o_Form___add__]; exists e_form
theorem e_fsubI : F_Form___sub__ [fm c f, .int k] = .ok (fm (c - k) f, false) := by rw [o_Form___sub__]; exists e_faddI, e_form
theorem fm_congr (h : ∀ x, 97 ≤ x → x ≤ 122 → f x = f' x) : fm c f = fm c f' := by
  unfold fm fmN
  rw [canon_congr h]
theorem e_fadd (hf : ∀ x, -B ≤ f x ∧ f x ≤ B) (hf' : ∀ x, -B ≤ f' x ∧ f' x ≤ B) : F_Form___add__ [fm c f, fm c' f'] = .ok (fm (c + c') fun x => f x + f' x, false) := by
  have hB : 0 ≤ B := by have := hf 0; omega
  refine Wn.eq ?_
  rw [o_Form___add__]
  exists e_faddI, e_fsubI, e_dictT (canon_ok hf) (by decide)
  refine wp_for (fun k ρ => ∃ mm s s', ρ = [.sh (fm c f), .sh (fm c' f'), .ow (dD mm), s, s'] ∧ NmOk (26 + k) (B + B) mm ∧ ∀ x, ng mm x = ng (canon f) x + ng ((canon f').take k) x) ⟨canon f, _, _, rfl, (canon_ok hf).mono (by decide) (by omega), fun x => by simp [ng, nO]⟩ (fun k p ρ hp q => ?_) fun ρ q => ?_
  · obtain ⟨mm, s, s', rfl, h1, h2⟩ := q
    have ok' := canon_ok hf'
    obtain ⟨t1, t2⟩ := ng_take ok' hp
    have mem := List.mem_of_getElem? hp
    have hk : k < (canon f').length := (List.getElem?_eq_some_iff.mp hp).1
    have hl := ok'.len
    have hl2 := h1.len
    have hb := canon_bd hf hB p.1
    have hv := ok'.bd p mem
    exists e_faddI, e_fsubI, getD_dD, dput_dD
    refine ⟨_, _, _, rfl, ?_, fun x => ?_⟩
    · refine h1.put (ok'.lt p mem).1 (ok'.lt p mem).2 ?_ ?_ <;> rw [h2, t2] <;> omega
    · rw [ng_put, t1]
      split
      · rename_i e; subst e; rw [h2, t2]; omega
      · exact h2 x
  · obtain ⟨mm, s, s', rfl, h1, h2⟩ := q
    exists e_faddI, e_fsubI, e_formof h1 (by have := (canon_ok hf').len; omega)
    rw [List.take_length] at h2
    rw [fm_congr (f' := fun x => f x + f' x) fun x a b => by rw [h2, ng_canon a b, ng_canon a b]]
theorem e_fmul (hf : ∀ x, -B ≤ f x ∧ f x ≤ B) (hB : B ≤ 2 ^ 100) (hc : -2 ^ 100 ≤ c) (hc' : c ≤ 2 ^ 100) (hk : -2 ^ 100 ≤ k) (hk' : k ≤ 2 ^ 100) (hkf : ∀ x, -B' ≤ f x * k ∧ f x * k ≤ B') : F_Form___mul__ [fm c f, .int k] = .ok (fm (c * k) fun x => f x * k, false) := by
  have hB0 : 0 ≤ B := by have := hf 0; omega
  have hB1 : 0 ≤ B' := by have := hkf 0; omega
  have ok := canon_ok hf
  have hl := ok.len
  refine Wn.eq ?_
  rw [o_Form___mul__]
  exists e_faddI, e_fsubI
  refine wp_dc (fun i acc ρ => ∃ mm s s', acc = mm.map kvD ∧ ρ = [.sh (fm c f), .sh (.int k), s, s'] ∧ NmOk i B' mm ∧ ∀ x, ng mm x = ng ((canon f).take i) x * k) rfl (by omega) ⟨[], _, _, rfl, rfl, NmOk.nil, fun x => by simp [ng, nO]⟩ (fun i p acc ρ hp q => ?_) fun acc ρ q => ?_
  · obtain ⟨mm, s, s', rfl, rfl, h1, h2⟩ := q
    obtain ⟨t1, t2⟩ := ng_take ok hp
    have mem := List.mem_of_getElem? hp
    have hv := ok.bd p mem
    have hv2 := hkf p.1
    rw [← (mem_canon.mp mem).2.2] at hv2
    exists e_faddI, e_fsubI, dput_dD
    refine ⟨_, _, _, rfl, rfl, h1.put (ok.lt p mem).1 (ok.lt p mem).2 hv2.1 hv2.2, fun x => ?_⟩
    rw [ng_put, t1]
    split
    · rfl
    · exact h2 x
  · obtain ⟨mm, s, s', rfl, rfl, h1, h2⟩ := q
    exists e_faddI, e_fsubI, e_formof (m := mm) (c := c * k) h1 (by omega)
    rw [List.take_length] at h2
    rw [fm_congr (f' := fun x => f x * k) fun x a b => by rw [h2, ng_canon a b]]
theorem e_fneg (hf : ∀ x, -B ≤ f x ∧ f x ≤ B) (hB : B ≤ 2 ^ 100) (hc : -2 ^ 100 ≤ c) (hc' : c ≤ 2 ^ 100) : F_Form___neg__ [fm c f] = .ok (fm (c * -1) fun x => f x * -1, false) := by
  rw [o_Form___neg__]
  exists e_faddI, e_fsubI, e_fmul (k := -1) hf hB hc hc' (by decide) (by decide) (B' := B) (fun x => by have := hf x; omega)
theorem e_fsub (hf : ∀ x, -B ≤ f x ∧ f x ≤ B) (hf' : ∀ x, -B ≤ f' x ∧ f' x ≤ B) (hB : B ≤ 2 ^ 100) (hc : -2 ^ 100 ≤ c') (hc' : c' ≤ 2 ^ 100) : F_Form___sub__ [fm c f, fm c' f'] = .ok (fm (c - c') fun x => f x - f' x, false) := by
  rw [o_Form___sub__]
  exists e_faddI, e_fsubI, e_fneg hf' hB hc hc', e_fadd hf (fun x => by have := hf' x; show -B ≤ f' x * -1 ∧ f' x * -1 ≤ B; omega)
  rw [show c + c' * -1 = c - c' by omega, show (fun x => f x + f' x * -1) = fun x => f x - f' x from funext fun x => by omega]
end

end DY

set_option Elab.async false
set_option linter.all false
set_option maxRecDepth 100000
set_option maxHeartbeats 4000000
namespace DY
local macro_rules | `(tactic| exists $es,*) => do
  let ls ← es.getElems.mapM fun e => `(Lean.Parser.Tactic.simpLemma| $e:term)
  `(tactic| simp -dsimp -implicitDefEqProofs (disch := walk_at "ds") only [bnd_ok, bnd_ex, bnd_bnd, Wn_ok, cnd_t, cnd_f, cnd_n, cnd_p, cnd_q, varG_sh, varG_ow, movG_sh, movG_ow, lookG_sh, lookG_ow, ownG_ow, get_0, get_s, set_0, set_s, ev_var, ev_mov0, ev_look, ev_c, ev_c0, ev_bin, ev_un, ev_bor, ev_borR, ev_bor1, ev_nil, ev_cons, ev_n, ev_if, ev_and, ev_or, notR_bl, ev_not, ev_chain, ev_callR, ev_callT, isIns_ok_, ev_meth, ev_methK, ev_nk, isL_ok, ev_mut, ev_get, ev_getS, intR_i, ev_part0, ev_part1, ev_slice, seqk_nx, seqk_rt, seqk_bk, seqk_ct, ev_seq, ev_next, ev_break, ev_cont, keep_tt, keep_tf, keep_fx, ev_asg, ev_par, ev_gN, ev_gTt, ev_gTk, ev_g0, ev_g1, ev_asgT, ev_expr, ev_ret, ev_retV, ev_retN, ev_sif, ev_for, ev_while, ev_put, ev_fld, fldG_0, fldG_1, fldG_2, fldG_3, fldG_4, fldG_5, fldG_6, end_nx, end_rt, objE_go, ev_iv, items_lst, items_fls, items_tup, items_str, ev_range, rngG_1, rngG_2, keyG_sh, keyG_ow, ev_keys, forE_nx, forE_ct, forE_bk, forE_rt, LK_nx, LK_ct, LK_bk, LK_rt, cndO_none, cndO_some, ev_lc, add_i, add_s, add_l, add_t, add_o, add_o', sub_i, sub_o, sub_o', mul_i, mul_o, mul_o', fdiv_i, mod_i, pow_i, neg_i, neg_o, lt_i, lt_s, le_i, le_s, gt_i, gt_s, ge_i, ge_s, eq_i, eq_s, eq_b, eq_o, eq_o', ne_i, ne_s, ne_b, ne_o, isN_n, isN_i, isN_b, isN_s, isN_t, isN_l, isN_d, isN_o, notN_n, notN_i, notN_b, notN_s, notN_t, notN_l, notN_d, notN_o, sel_t, sel_f, sel1_t, isC_i, isC_n, cc_ii, cc_in, cc_ni, ci_in, ci_ii, ci_n, ic_in, ic_ii, cany_i, cany_o, cany_n, in_c, in_di, in_ds, nin_c, nin_ds, opt_s, ixt_0, ixt_1, ixt_2, ixt_3, ixl_0, ixl_1, ixl_2, ix_ds, ix_di, sl_l, sl_f, sl_t, sl_s, len_l, len_f, len_t, len_d, len_s, len_o, lenD_e, isi_int_i, isi_int_b, isi_bool_b, isi_bool_i, isi_str_s, isi_str_i, isi_str_t, isi_tup_t, isi_tup_i, isi_tup_s, isi_dict_d, isi_int_s, isi_int_t, isi_int_o, isi_o, isi_c_i, isi_c_s, isi_c_t, isi_c_n, abs_i, int_i, max_i, min_i, all_m, any_m, sum_m, tuple_l, tuple_t, list_l, list_t, list_d, dict_d, str_i, str_s, str_o, mkTup_e, mkKey_e, mkLst_e, get_ds, get_di, app_e, put_ds, put_di, put_l0, put_l1, put_l2, fld_0, fld_1, fld_2, fld_3, fld_4, fld_5, fld_6, wipe_0, wipe_s, ev_dc, keyOf_s, keyOf_i, okS_un, okS_sh, okS_us, noOw_0, noOw_s, back_0, back_s, getD_0, getD_s, u_mt__law_bag_1, u_mt__law_bag_2, u_mt__law_bag_3, u_mm__law_bag, u_mm_are_small, u_mm_is_integer, u_mt_are_terms_1, u_mt_are_terms_2, u_mt_are_terms_3, u_mt_are_terms_4, u_mm_are_terms, u_mt_Form___init___1, u_mt_Form___init___2, u_mt_Form___init___3, u_mm_Form___init__, u_mm_form_of, u_mt_Form___add___1, u_mt_Form___add___2, u_mt_Form___add___3, u_mt_Form___add___4, u_mm_Form___add__, u_mm_Form___eq__, u_mm_Form___mul__, u_mm_Form___neg__, u_mt_Form___sub___1, u_mm_Form___sub__, u_mt_shared_factor_1, u_mt_shared_factor_2, u_mm_shared_factor, u_mt_Ratio___init___1, u_mt_Ratio___init___2, u_mt_Ratio___init___3, u_mm_Ratio___init__, u_mm_as_ratio, u_mt_compared_1, u_mm_compared, u_mm_is_above, u_mm_is_fraction, u_mm_are_lengths, u_mt_Ratio___add___1, u_mm_Ratio___add__, u_mt_Ratio___mul___1, u_mm_Ratio___mul__, u_mm_Ratio___rmul__, u_mt_worth_1, u_mt_worth_2, u_mm_worth, u_mm_Form_at, u_mt_Ratio___eq___1, u_mm_Ratio___eq__, u_mt__law_added_1, u_mt__law_added_2, u_mm__law_added, u_mt__law_draw_1, u_mt__law_draw_2, u_mt__law_draw_3, u_mt__law_draw_4, u_mt__law_draw_5, u_mm__law_draw, u_mm__law_one, u_mt__law_drawn_1, u_mt__law_drawn_2, u_mm__law_drawn, u_mm__law_pairs, u_mm__law_due, u_mm__law_shown, u_mt__law_right_1, u_mt__law_right_2, u_mt__law_right_3, u_mt__law_right_4, u_mt__law_right_5, u_mt__law_right_6, u_mt__law_right_7, u_mt__law_right_8, u_mt__law_right_9, u_mt__law_right_10, u_mt__law_right_11, u_mt__law_right_12, u_mt__law_right_13, u_mt__law_right_14, u_mt__law_right_16, u_mt__law_right_17, u_mm__law_right, u_mm_law, e_isint, e_isint_o, e_ratio, e_asr, e_asi, e_fr, e_fri, ltN1, e_faddI, e_fsubI, decide_true, decide_false, if_true, if_false, Bool.not_true, Bool.not_false, List.length_cons, List.length_nil, Int.cast_ofNat_Int, List.nil_append, List.cons_append, List.append_nil, and_self, and_true, true_and, and_false, false_and, List.length_map, Int.reduceToNat, Int.reducePow, Int.reduceSub, Int.reduceAdd, Int.reduceMul, Int.reduceNeg, $ls,*])
open SL (nm dn gI Bd)
local macro_rules | `(tactic| walk_at "ds") => `(tactic| first | assumption | omega | (simp only [List.length_map, List.length_append, List.length_cons, List.length_nil]; omega) | exact mulOk_n (by omega) (by omega) | exact divOk_b (by omega) (by omega) | (refine id ?_; with_unfolding_all rfl) | (refine id ?_; with_unfolding_all exact Nat.le_of_ble_eq_true rfl) | (simp only [noOw_s, noOw_0, okS_un, okS_sh, okS_us, get_0, get_s, Bool.and_true]; done))
--#NEW
/-! ### worths for lengths in sixths -/
def lgD (s : Int) : D := if s.fmod 6 = 0 then .int (s.fdiv 6) else rat s 6
def lvD (p : Nat × Int) : Ky × D := (.inr [p.1], lgD p.2)
section
variable {L : Nat} {B : Int} {m ls : Nm} {c k : Int} {f : Nat → Int}
theorem dget_lv (m : Nm) (c : Nat) : dget (m.map lvD) (.inr [c]) = (nO m c).map lgD := by
  unfold dget nO
  induction m with
  | nil => rfl
  | cons p m ih =>
    rw [List.map_cons, List.find?_cons, List.find?_cons]
    have : decide ((lvD p).1 = (Sum.inr [c] : Ky)) = decide (p.1 = c) := key_eq p c
    rw [this]
    cases decide (p.1 = c) with
    | true => rfl
    | false => exact ih
theorem six {s : Int} (h : s.fmod 6 = 0) : s.fdiv 6 * 6 = s := by
  have := Int.fmod_add_mul_fdiv s 6
  omega
theorem rat_six {s : Int} (q : s.fmod 6 = 0) : rat (s.fdiv 6) 1 = rat s 6 := rat_scale (by decide) (by decide) (by rw [six q]; omega)
theorem e_asl {s : Int} : F_as_ratio [lgD s] = .ok (rat s 6, false) := by
  unfold lgD
  split
  · rename_i q; rw [e_asi, rat_six q]
  · exact e_asr
theorem e_lgf {s : Int} : F_is_fraction [lgD s] = .ok (.bl true, false) := by
  unfold lgD
  split
  · exact e_fri
  · exact e_fr
theorem bd100 {s : Int} (h : s.natAbs ≤ 2 ^ 100) : Bd 3000 s := SL.Bd.mono (a := 101) (by show s.natAbs < 2 ^ 101; omega) (by decide)
theorem bd6 : Bd 3000 6 := Bd_n (by decide) (by decide)
theorem bd0 : Bd 3000 0 := Bd_n (by decide) (by decide)
theorem e_above0 {s : Int} (hs : 0 ≤ s) (hz : s ≤ 2 ^ 100) : F_is_above [.int 0, lgD s] = .ok (.bl false, false) := by
  rw [o_is_above]
  exists e_asl, e_lgf, e_cmp (d2 := 6) (by decide) (by decide) (bd0 : Bd 3000 0) bd13 (bd100 (s := s) (by omega)) bd6, decide_eq_decide.mpr (cmp_pos _ _)
  rw [decide_eq_false (by omega)]
structure LsOk (ls : Nm) : Prop where
  nd : (ls.map (·.1)).Nodup
  lt : ∀ p ∈ ls, 97 ≤ p.1 ∧ p.1 ≤ 122
  bd : ∀ p ∈ ls, 0 ≤ p.2 ∧ p.2 ≤ 500
  len : ls.length ≤ 26
theorem LsOk.nm (h : LsOk ls) : NmOk 26 500 ls := ⟨h.nd, h.lt, fun p hp => by have := h.bd p hp; omega, h.len⟩
theorem all_true {α : Type} (l : List α) : allD [.lst (l.map fun _ => D.bl true)] = .ok (.bl true, false) := by
  have := all_m (l := l.map fun _ => true)
  rw [List.map_map] at this
  rw [show (l.map fun _ => D.bl true) = l.map (D.bl ∘ fun _ => true) from rfl, this]
  simp
theorem e_lengths (hl : LsOk ls) : F_are_lengths [.dic (ls.map lvD)] = .ok (.bl true, false) := by
  have hll := hl.len
  have ke : ((ls.map lvD).map fun kv => kyD kv.1) = ls.map fun p => D.str [p.1] := by rw [List.map_map]; rfl
  rw [o_are_lengths]
  exists e_asl, e_lgf, ke
  rw [lc_eq (fun _ => some (.bl true)) rfl (by omega) (fun p hp => ⟨[.sh (.dic (ls.map lvD)), .sh (.str [p.1])], ?_, rfl, rfl⟩), fm_map]
  · exists e_asl, e_lgf, all_true
  · have e : dget (ls.map lvD) (.inr [p.1]) = some (lgD p.2) := by rw [dget_lv, nO_mem hl.nm hp]; rfl
    have hb := hl.bd p hp
    exists e_asl, e_lgf, e_low1 (hl.lt p hp).1 (hl.lt p hp).2, e, e_above0 hb.1 (by omega)
theorem e_worth (hl : LsOk ls) (hc : c.natAbs ≤ 2 ^ 100) (hf : ∀ x, (f x).natAbs ≤ 2 ^ 90) (hd : ∀ p ∈ canon f, nO ls p.1 ≠ none) : F_worth [fm c f, .dic (ls.map lvD)] = .ok (rat (6 * c + sumT (ng ls) (canon f)) 6, false) := by
  refine Wn.eq ?_
  have := bd1
  rw [o_worth]
  exists e_asl, e_lgf
  refine wp_for (fun i ρ => ∃ N s s', ρ = [.sh (fm c f), .sh (.dic (ls.map lvD)), .sh (rat N 6), s, s'] ∧ N = 6 * c + sumT (ng ls) ((canon f).take i) ∧ N.natAbs ≤ 2 ^ 110 + i * 2 ^ 110) ⟨6 * c, .un, .un, by rw [← rat_scale (a := c) (b := 1) (c := 6 * c) (e := 6) (by decide) (by decide) (by omega)], by simp [sumT], by omega⟩ (fun i p ρ hp q => ?_) fun ρ q => ?_
  · obtain ⟨N, s, s', rfl, h1, h2⟩ := q
    have mem := List.mem_of_getElem? hp
    have hi : i < (canon f).length := (List.getElem?_eq_some_iff.mp hp).1
    have hi2 := (canon_tm f).len
    have hv : p.2.natAbs ≤ 2 ^ 90 := by rw [(mem_canon.mp mem).2.2]; exact hf _
    obtain ⟨v, e⟩ := Option.ne_none_iff_exists'.mp (hd p mem)
    have hv2 := hl.bd _ (nO_some e)
    have ev : ng ls p.1 = v := by unfold ng; rw [e]; rfl
    have e2 : dget (ls.map lvD) (.inr [p.1]) = some (lgD v) := by rw [dget_lv, e]; rfl
    have bvp : (v * p.2).natAbs ≤ 2 ^ 100 := by
      rw [Int.natAbs_mul]
      exact Nat.le_trans (Nat.mul_le_mul (show v.natAbs ≤ 2 ^ 10 by omega) hv) (by decide)
    have bN : Bd 3000 N := SL.Bd.mono (a := 120) (by show N.natAbs < 2 ^ 120; have : i * 2 ^ 110 ≤ 26 * 2 ^ 110 := Nat.mul_le_mul_right _ (by omega); omega) (by decide)
    exists e_asl, e_lgf, e2, e_mulI (n1 := v) (d1 := 6) (by decide) (bd100 (by omega)) bd6 (bd100 (s := p.2) (by omega)), e_add (n1 := N) (d1 := 6) (n2 := v * p.2) (d2 := 6) (by decide) (by decide) bN bd6 (bd100 bvp) bd6
    refine ⟨N + v * p.2, _, _, by rw [rat_scale (a := N * 6 + v * p.2 * 6) (b := 36) (c := N + v * p.2) (e := 6) (by decide) (by decide) (by omega)], ?_, ?_⟩
    · rw [sumT_take hp, ev, h1, Int.add_assoc]
    · rw [Nat.add_mul, Nat.one_mul, ← Nat.add_assoc]
      exact Nat.le_trans (Int.natAbs_add_le _ _) (Nat.add_le_add h2 (by omega))
  · obtain ⟨N, s, s', rfl, h1, h2⟩ := q
    rw [List.take_length] at h1
    exists e_asl, e_lgf, h1
theorem e_at (hl : LsOk ls) (hc : c.natAbs ≤ 2 ^ 100) (hf : ∀ x, (f x).natAbs ≤ 2 ^ 90) (hd : ∀ p ∈ canon f, nO ls p.1 ≠ none) : F_Form_at [fm c f, .dic (ls.map lvD)] = .ok (rat (6 * c + sumT (ng ls) (canon f)) 6, false) := by
  have ln : ((canon f).map (·.1)).length ≤ 26 := by rw [List.length_map]; exact (canon_tm f).len
  have ln2 : (fmN f).length ≤ 1000 := by unfold fmN; omega
  rw [o_Form_at]
  exists e_asl, e_lgf, e_lengths hl
  rw [lc_eq (fun _ => some (.bl true)) rfl ln2 (fun x hx => ⟨[.sh (fm c f), .sh (.dic (ls.map lvD)), .sh (.str [x])], ?_, rfl, rfl⟩), fm_map]
  · exists e_asl, e_lgf, all_true, e_worth hl hc hf hd
  · obtain ⟨p, hp, rfl⟩ := List.mem_map.mp hx
    obtain ⟨v, e⟩ := Option.ne_none_iff_exists'.mp (hd p hp)
    have e2 : (dget (ls.map lvD) (.inr [p.1])).isSome = true := by rw [dget_lv, e]; rfl
    exists e_asl, e_lgf, e2
end

end DY

set_option Elab.async false
set_option linter.all false
set_option maxRecDepth 100000
set_option maxHeartbeats 4000000
namespace DY
local macro_rules | `(tactic| exists $es,*) => do
  let ls ← es.getElems.mapM fun e => `(Lean.Parser.Tactic.simpLemma| $e:term)
  `(tactic| simp -dsimp -implicitDefEqProofs (disch := walk_at "ds") only [bnd_ok, bnd_ex, bnd_bnd, Wn_ok, cnd_t, cnd_f, cnd_n, cnd_p, cnd_q, varG_sh, varG_ow, movG_sh, movG_ow, lookG_sh, lookG_ow, ownG_ow, get_0, get_s, set_0, set_s, ev_var, ev_mov0, ev_look, ev_c, ev_c0, ev_bin, ev_un, ev_bor, ev_borR, ev_bor1, ev_nil, ev_cons, ev_n, ev_if, ev_and, ev_or, notR_bl, ev_not, ev_chain, ev_callR, ev_callT, isIns_ok_, ev_meth, ev_methK, ev_nk, isL_ok, ev_mut, ev_get, ev_getS, intR_i, ev_part0, ev_part1, ev_slice, seqk_nx, seqk_rt, seqk_bk, seqk_ct, ev_seq, ev_next, ev_break, ev_cont, keep_tt, keep_tf, keep_fx, ev_asg, ev_par, ev_gN, ev_gTt, ev_gTk, ev_g0, ev_g1, ev_asgT, ev_expr, ev_ret, ev_retV, ev_retN, ev_sif, ev_for, ev_while, ev_put, ev_fld, fldG_0, fldG_1, fldG_2, fldG_3, fldG_4, fldG_5, fldG_6, end_nx, end_rt, objE_go, ev_iv, items_lst, items_fls, items_tup, items_str, ev_range, rngG_1, rngG_2, keyG_sh, keyG_ow, ev_keys, forE_nx, forE_ct, forE_bk, forE_rt, LK_nx, LK_ct, LK_bk, LK_rt, cndO_none, cndO_some, ev_lc, add_i, add_s, add_l, add_t, add_o, add_o', sub_i, sub_o, sub_o', mul_i, mul_o, mul_o', fdiv_i, mod_i, pow_i, neg_i, neg_o, lt_i, lt_s, le_i, le_s, gt_i, gt_s, ge_i, ge_s, eq_i, eq_s, eq_b, eq_o, eq_o', ne_i, ne_s, ne_b, ne_o, isN_n, isN_i, isN_b, isN_s, isN_t, isN_l, isN_d, isN_o, notN_n, notN_i, notN_b, notN_s, notN_t, notN_l, notN_d, notN_o, sel_t, sel_f, sel1_t, isC_i, isC_n, cc_ii, cc_in, cc_ni, ci_in, ci_ii, ci_n, ic_in, ic_ii, cany_i, cany_o, cany_n, in_c, in_di, in_ds, nin_c, nin_ds, opt_s, ixt_0, ixt_1, ixt_2, ixt_3, ixl_0, ixl_1, ixl_2, ix_ds, ix_di, sl_l, sl_f, sl_t, sl_s, len_l, len_f, len_t, len_d, len_s, len_o, lenD_e, isi_int_i, isi_int_b, isi_bool_b, isi_bool_i, isi_str_s, isi_str_i, isi_str_t, isi_tup_t, isi_tup_i, isi_tup_s, isi_dict_d, isi_int_s, isi_int_t, isi_int_o, isi_o, isi_c_i, isi_c_s, isi_c_t, isi_c_n, abs_i, int_i, max_i, min_i, all_m, any_m, sum_m, tuple_l, tuple_t, list_l, list_t, list_d, dict_d, str_i, str_s, str_o, mkTup_e, mkKey_e, mkLst_e, get_ds, get_di, app_e, put_ds, put_di, put_l0, put_l1, put_l2, fld_0, fld_1, fld_2, fld_3, fld_4, fld_5, fld_6, wipe_0, wipe_s, ev_dc, keyOf_s, keyOf_i, okS_un, okS_sh, okS_us, noOw_0, noOw_s, back_0, back_s, getD_0, getD_s, u_mt__law_bag_1, u_mt__law_bag_2, u_mt__law_bag_3, u_mm__law_bag, u_mm_are_small, u_mm_is_integer, u_mt_are_terms_1, u_mt_are_terms_2, u_mt_are_terms_3, u_mt_are_terms_4, u_mm_are_terms, u_mt_Form___init___1, u_mt_Form___init___2, u_mt_Form___init___3, u_mm_Form___init__, u_mm_form_of, u_mt_Form___add___1, u_mt_Form___add___2, u_mt_Form___add___3, u_mt_Form___add___4, u_mm_Form___add__, u_mm_Form___eq__, u_mm_Form___mul__, u_mm_Form___neg__, u_mt_Form___sub___1, u_mm_Form___sub__, u_mt_shared_factor_1, u_mt_shared_factor_2, u_mm_shared_factor, u_mt_Ratio___init___1, u_mt_Ratio___init___2, u_mt_Ratio___init___3, u_mm_Ratio___init__, u_mm_as_ratio, u_mt_compared_1, u_mm_compared, u_mm_is_above, u_mm_is_fraction, u_mm_are_lengths, u_mt_Ratio___add___1, u_mm_Ratio___add__, u_mt_Ratio___mul___1, u_mm_Ratio___mul__, u_mm_Ratio___rmul__, u_mt_worth_1, u_mt_worth_2, u_mm_worth, u_mm_Form_at, u_mt_Ratio___eq___1, u_mm_Ratio___eq__, u_mt__law_added_1, u_mt__law_added_2, u_mm__law_added, u_mt__law_draw_1, u_mt__law_draw_2, u_mt__law_draw_3, u_mt__law_draw_4, u_mt__law_draw_5, u_mm__law_draw, u_mm__law_one, u_mt__law_drawn_1, u_mt__law_drawn_2, u_mm__law_drawn, u_mm__law_pairs, u_mm__law_due, u_mm__law_shown, u_mt__law_right_1, u_mt__law_right_2, u_mt__law_right_3, u_mt__law_right_4, u_mt__law_right_5, u_mt__law_right_6, u_mt__law_right_7, u_mt__law_right_8, u_mt__law_right_9, u_mt__law_right_10, u_mt__law_right_11, u_mt__law_right_12, u_mt__law_right_13, u_mt__law_right_14, u_mt__law_right_16, u_mt__law_right_17, u_mm__law_right, u_mm_law, e_isint, e_isint_o, e_ratio, e_asr, e_asi, e_fr, e_fri, ltN1, e_faddI, e_fsubI, e_asl, e_lgf, decide_true, decide_false, if_true, if_false, Bool.not_true, Bool.not_false, List.length_cons, List.length_nil, Int.cast_ofNat_Int, List.nil_append, List.cons_append, List.append_nil, and_self, and_true, true_and, and_false, false_and, List.length_map, Int.reduceToNat, Int.reducePow, Int.reduceSub, Int.reduceAdd, Int.reduceMul, Int.reduceNeg, $ls,*])
open SL (nm dn gI Bd)
local macro_rules | `(tactic| walk_at "ds") => `(tactic| first | assumption | omega | (simp only [List.length_map, List.length_append, List.length_cons, List.length_nil]; omega) | exact mulOk_n (by omega) (by omega) | exact divOk_b (by omega) (by omega) | (refine id ?_; with_unfolding_all rfl) | (refine id ?_; with_unfolding_all exact Nat.le_of_ble_eq_true rfl) | (simp only [noOw_s, noOw_0, okS_un, okS_sh, okS_us, get_0, get_s, Bool.and_true]; done))
--#NEW
/-! ### what the law reckons by hand -/
section
variable {L L' : Nat} {B B' B'' : Int} {m m' : Nm} {c c' k : Int} {f f' : Nat → Int}
theorem e_pairs (hm : NmOk L B m) (hl : L < 64) : F__law_pairs [dD m] = .ok (tmD (canon (ng m)), false) := by
  have hml := hm.len
  obtain ⟨ys, es, h1, h2, h3⟩ := e_sorted hm hl
  rw [o__law_pairs]
  exists keys_dD, es
  rw [lc_eq (fun c => if ng m c = 0 then none else some (prD (c, ng m c))) rfl (by omega) (fun x hx => ⟨[.sh (dD m), .sh (.str [x])], ?_, rfl, rfl⟩), terms_of hm h1 h2]
  · exists bnd_ok
  · by_cases q : ng m x = 0
    · exists ng_key h1 hx
      rw [if_pos q]
    · exists ng_key h1 hx
      rw [if_neg q]
theorem e_added (hm : NmOk L B m) (hm' : NmOk L' B' m') (hl : L + L' < 64) (h0 : 0 ≤ B) (h00 : 0 ≤ B') (h1 : B' ≤ 2 ^ 100) (hk : k.natAbs ≤ 2 ^ 100) (hb : ∀ y, -B' ≤ y → y ≤ B' → -(B'' - B) ≤ k * y ∧ k * y ≤ B'' - B) : ∃ r, F__law_added [dD m, dD m', .int k] = .ok (dD r, true) ∧ NmOk (L + L') B'' r ∧ ∀ x, ng r x = ng m x + k * ng m' x := by
  have hz : B ≤ B'' := by have := hb 0 (by omega) h00; rw [Int.mul_zero] at this; omega
  suffices h : Wn (F__law_added [dD m, dD m', .int k]) fun x => ∃ r, x = (dD r, true) ∧ NmOk (L + L') B'' r ∧ ∀ x, ng r x = ng m x + k * ng m' x by
    obtain ⟨x, e, r, rfl, h⟩ := h
    exact ⟨r, e, h⟩
  rw [o__law_added]
  exists keys_dD
  refine wp_for (fun i ρ => ∃ mm s, ρ = [.sh (dD m), .sh (dD m'), .sh (.int k), .ow (dD mm), s] ∧ NmOk (L + i) B'' mm ∧ ∀ x, ng mm x = ng m x + k * ng (m'.take i) x) ⟨m, _, rfl, hm.mono (by omega) hz, fun x => by simp [ng, nO]⟩ (fun i p ρ hp q => ?_) fun ρ q => ?_
  · obtain ⟨mm, s, rfl, h2, h3⟩ := q
    obtain ⟨t1, t2⟩ := ng_take hm' hp
    have mem := List.mem_of_getElem? hp
    have hi : i < m'.length := (List.getElem?_eq_some_iff.mp hp).1
    have hl' := hm'.len
    have hl2 := h2.len
    have hv := hm'.bd p mem
    have hv2 := hb p.2 hv.1 hv.2
    have hmb := hm.ng_bd h0 p.1
    have e : dget (m'.map kvD) (.inr [p.1]) = some (.int p.2) := by rw [dget_dD, nO_mem hm' mem]; rfl
    exists getD_dD, e, dput_dD
    refine ⟨_, _, rfl, h2.put (hm'.lt p mem).1 (hm'.lt p mem).2 ?_ ?_, fun x => ?_⟩
    · rw [h3, t2]; omega
    · rw [h3, t2]; omega
    · rw [ng_put, t1]
      split
      · rename_i e; subst e; rw [h3, t2]; omega
      · exact h3 x
  · obtain ⟨mm, s, rfl, h2, h3⟩ := q
    rw [List.take_length] at h3
    exists bnd_ok
    exact ⟨mm, rfl, h2.mono (by have := hm'.len; omega) (by omega), h3⟩
@[reducible] def dueD (c : Int) (f : Nat → Int) : D := .lst [.int c, tmD (canon f), .str (fmN f)]
theorem e_due (hm : NmOk L B m) (hl : L < 64) : F__law_due [.int c, dD m] = .ok (dueD c (ng m), true) := by
  have ht := (canon_tm (ng m)).len
  rw [o__law_due]
  exists e_pairs hm hl
  rw [lc_eq (fun p => some (.str [p.1])) rfl (by omega) (fun p _ => ⟨[.sh (.int c), .sh (dD m), .sh (tmD (canon (ng m))), .sh (prD p)], ?_, rfl, rfl⟩), fm_map]
  · have e : (canon (ng m)).map (fun p => D.str [p.1]) = (fmN (ng m)).map fun c => D.str [c] := by unfold fmN; rw [List.map_map]; rfl
    rw [e]
    exists e_join (show (fmN (ng m)).length ≤ 1000 by unfold fmN; rw [List.length_map]; omega)
  · exists bnd_ok
theorem e_shown : F__law_shown [fm c f] = .ok (dueD c f, true) := by rw [o__law_shown]; exists bnd_ok
theorem l122 (f : Nat → Int) : ∀ p ∈ canon f, p.1 ≤ 122 := fun p hp => (mem_canon.mp hp).1.2
theorem e_feq : F_Form___eq__ [fm c f, fm c' f'] = .ok (.bl (decide (c = c' ∧ canon f = canon f')), false) := by
  have e : eqD no2 (tmD (canon f)) (tmD (canon f')) = .ok (.bl (decide (canon f = canon f')), false) := eqR fun P h => w_eqT (l122 f) (l122 f') h
  rw [o_Form___eq__]
  by_cases q : c = c'
  · exists e_shown, e
    simp [q]
  · exists e_shown
    simp [q]
theorem e_feqI : F_Form___eq__ [fm c f, .int k] = .ok (.bl false, false) := by rw [o_Form___eq__]; exists e_shown
theorem dok_due {n : Nat} : dok (n + 3) (dueD c f) = true := by
  refine dok_lst fun x hx => ?_
  rcases List.mem_cons.mp hx with rfl | hx
  · exact dok_int
  · rcases List.mem_cons.mp hx with rfl | hx
    · exact dok_tm (l122 f)
    · rw [List.mem_singleton.mp hx]
      refine dok_str fun c hc => ?_
      obtain ⟨p, hp, rfl⟩ := List.mem_map.mp hc
      exact l122 f p hp
theorem eqv_due : eqv (dueD c f) (dueD c' f') = decide (c = c' ∧ canon f = canon f') := by
  have e2 : eqv (tmD (canon f)) (tmD (canon f')) = decide (canon f = canon f') := eqvs_tm _ _
  show eqvs [D.int c, tmD (canon f), D.str (fmN f)] [D.int c', tmD (canon f'), D.str (fmN f')] = _
  simp only [eqvs, e2]
  rw [Bool.eq_iff_iff]
  simp only [eqv, Bool.and_eq_true, beq_iff_eq, decide_eq_true_eq]
  constructor
  · rintro ⟨a, b, _⟩; exact ⟨a, b⟩
  · rintro ⟨a, b⟩; exact ⟨a, b, by unfold fmN; rw [b], trivial⟩
theorem due_congr (h : ∀ x, f x = f' x) : dueD c f = dueD c f' := by rw [funext h]
end
/-! ### the draws -/
def six6 : List Nat := [97, 98, 99, 120, 121, 122]
structure Nb (m : Nm) : Prop where
  ok : NmOk 6 1000000000001 m
  in6 : ∀ p ∈ m, p.1 ∈ six6
theorem six_lt {x : Nat} (h : x ∈ six6) : 97 ≤ x ∧ x ≤ 122 := by
  unfold six6 at h
  simp only [List.mem_cons, List.not_mem_nil, or_false] at h
  omega
theorem rng_map (n : Nat) : rng 0 n = (List.range n).map fun (i : Nat) => D.int i := by
  have : ∀ (n : Nat) (lo : Int), rng lo n = (List.range n).map fun (i : Nat) => D.int (lo + i) := fun n => by
    induction n with
    | zero => intro lo; rfl
    | succ n ih =>
      intro lo
      rw [rng, ih, List.range_succ_eq_map, List.map_cons, List.map_map]
      congr 1
      · simp
      · refine List.map_congr_left fun i _ => ?_
        show D.int (lo + 1 + i) = D.int (lo + ((i + 1 : Nat) : Int))
        congr 1
        omega
  have := this n 0
  simpa using this
theorem wp_drawn {γ : Type} {kk : Rv × D → R γ} {P : γ → Prop} {n : Nat} {bag : D} (hb : BagOk n bag) (hn : n < 2 ^ 50) (h : ∀ (c : Int) (m : Nm) d', Nb m → 0 - 7 ≤ c → c ≤ 1000000000000 → BagOk (n + 100) d' → Wn (kk ((.tup [.int c, dD m], false), d')) P) : Wn (bnd (F__law_drawn [] bag) kk) P := by
  rw [o__law_drawn]
  exists e_shown, e_feqI
  refine wp_draw hb (by omega) (by decide) (by decide) fun t b1 q1 q2 hb1 => ?_
  exists e_shown, e_feqI, rng_map
  refine wp_for (fun i ρ => ∃ b m s s', ρ = [.ow b, .ow (dD m), s, s'] ∧ BagOk (n + 1 + 10 * i) b ∧ NmOk i 1000000000001 m ∧ ∀ p ∈ m, p.1 ∈ six6) ⟨b1, [], _, _, rfl, hb1, NmOk.nil, fun p hp => by cases hp⟩ (fun i x ρ hx q => ?_) fun ρ q => ?_
  · obtain ⟨b, m, s, s', rfl, hb, hm, h6⟩ := q
    have hi : i < t.toNat := by
      have := (List.getElem?_eq_some_iff.mp hx).1
      rw [List.length_range] at this
      exact this
    have hml := hm.len
    exists e_shown, e_feqI
    refine wp_draw hb (by omega) (by decide) (by decide) fun u1 b2 u2 u3 hb2 => ?_
    exists e_shown, e_feqI
    refine wp_draw hb2 (by omega) (by decide) (by decide) fun u4 b3 u5 u6 hb3 => ?_
    exists e_shown, e_feqI
    refine wp_one hb3 (by omega) (by simp) (by simp) fun z b4 hz hb4 => ?_
    have hz : ∃ v : Int, z = .int v ∧ 0 ≤ v ∧ v ≤ 999999999999 := by
      simp only [List.mem_cons, List.not_mem_nil, or_false] at hz
      rcases hz with rfl | rfl | rfl | rfl <;> exact ⟨_, rfl, by omega, by omega⟩
    obtain ⟨v, rfl, v1, v2⟩ := hz
    exists e_shown, e_feqI
    refine wp_one hb4 (by omega) (by decide) (by decide) fun z b5 hz hb5 => ?_
    have hz : ∃ w : Int, z = .int w ∧ (w = 1 ∨ w = -1) := by
      simp only [List.mem_cons, List.not_mem_nil, or_false] at hz
      rcases hz with rfl | rfl <;> exact ⟨_, rfl, by decide⟩
    obtain ⟨w, rfl, hw⟩ := hz
    have hvw : -1000000000001 ≤ (1 + v) * w ∧ (1 + v) * w ≤ 1000000000001 := by
      rcases hw with rfl | rfl <;> omega
    exists e_shown, e_feqI
    refine wp_ones hb5 (by omega) (by decide) (by decide) fun x6 b6 hx6 hb6 => ?_
    have l6 := six_lt (x := x6) hx6
    exists e_shown, e_feqI, dput_dD
    refine ⟨b6, _, _, _, rfl, hb6.mono (by omega), hm.put l6.1 l6.2 hvw.1 hvw.2, fun p hp => ?_⟩
    rcases mem_nput hp with hp | rfl
    · exact h6 p hp
    · exact hx6
  · obtain ⟨b, m, s, s', rfl, hb, hm, h6⟩ := q
    rw [List.length_range] at hb hm
    exists e_shown, e_feqI
    refine wp_draw hb (by omega) (by decide) (by decide) fun u1 b2 u2 u3 hb2 => ?_
    exists e_shown, e_feqI
    refine wp_one hb2 (by omega) (by simp) (by simp) fun z b4 hz hb4 => ?_
    have hz : ∃ v : Int, z = .int v ∧ 0 - 7 ≤ v ∧ v ≤ 1000000000000 := by
      simp only [List.mem_cons, List.not_mem_nil, or_false] at hz
      rcases hz with rfl | rfl | rfl | rfl <;> exact ⟨_, rfl, by omega, by omega⟩
    obtain ⟨v, rfl, v1, v2⟩ := hz
    exists e_shown, e_feqI
    exact h v m b4 ⟨hm.mono (by omega) (by omega), h6⟩ v1 v2 (hb4.mono (by omega))

end DY

set_option Elab.async false
set_option linter.all false
set_option maxRecDepth 100000
set_option maxHeartbeats 4000000
namespace DY
local macro_rules | `(tactic| exists $es,*) => do
  let ls ← es.getElems.mapM fun e => `(Lean.Parser.Tactic.simpLemma| $e:term)
  `(tactic| simp -dsimp -implicitDefEqProofs (disch := walk_at "ds") only [bnd_ok, bnd_ex, bnd_bnd, Wn_ok, cnd_t, cnd_f, cnd_n, cnd_p, cnd_q, varG_sh, varG_ow, movG_sh, movG_ow, lookG_sh, lookG_ow, ownG_ow, get_0, get_s, set_0, set_s, ev_var, ev_mov0, ev_look, ev_c, ev_c0, ev_bin, ev_un, ev_bor, ev_borR, ev_bor1, ev_nil, ev_cons, ev_n, ev_if, ev_and, ev_or, notR_bl, ev_not, ev_chain, ev_callR, ev_callT, isIns_ok_, ev_meth, ev_methK, ev_nk, isL_ok, ev_mut, ev_get, ev_getS, intR_i, ev_part0, ev_part1, ev_slice, seqk_nx, seqk_rt, seqk_bk, seqk_ct, ev_seq, ev_next, ev_break, ev_cont, keep_tt, keep_tf, keep_fx, ev_asg, ev_par, ev_gN, ev_gTt, ev_gTk, ev_g0, ev_g1, ev_asgT, ev_expr, ev_ret, ev_retV, ev_retN, ev_sif, ev_for, ev_while, ev_put, ev_fld, fldG_0, fldG_1, fldG_2, fldG_3, fldG_4, fldG_5, fldG_6, end_nx, end_rt, objE_go, ev_iv, items_lst, items_fls, items_tup, items_str, ev_range, rngG_1, rngG_2, keyG_sh, keyG_ow, ev_keys, forE_nx, forE_ct, forE_bk, forE_rt, LK_nx, LK_ct, LK_bk, LK_rt, cndO_none, cndO_some, ev_lc, add_i, add_s, add_l, add_t, add_o, add_o', sub_i, sub_o, sub_o', mul_i, mul_o, mul_o', fdiv_i, mod_i, pow_i, neg_i, neg_o, lt_i, lt_s, le_i, le_s, gt_i, gt_s, ge_i, ge_s, eq_i, eq_s, eq_b, eq_o, eq_o', ne_i, ne_s, ne_b, ne_o, isN_n, isN_i, isN_b, isN_s, isN_t, isN_l, isN_d, isN_o, notN_n, notN_i, notN_b, notN_s, notN_t, notN_l, notN_d, notN_o, sel_t, sel_f, sel1_t, isC_i, isC_n, cc_ii, cc_in, cc_ni, ci_in, ci_ii, ci_n, ic_in, ic_ii, cany_i, cany_o, cany_n, in_c, in_di, in_ds, nin_c, nin_ds, opt_s, ixt_0, ixt_1, ixt_2, ixt_3, ixl_0, ixl_1, ixl_2, ix_ds, ix_di, sl_l, sl_f, sl_t, sl_s, len_l, len_f, len_t, len_d, len_s, len_o, lenD_e, isi_int_i, isi_int_b, isi_bool_b, isi_bool_i, isi_str_s, isi_str_i, isi_str_t, isi_tup_t, isi_tup_i, isi_tup_s, isi_dict_d, isi_int_s, isi_int_t, isi_int_o, isi_o, isi_c_i, isi_c_s, isi_c_t, isi_c_n, abs_i, int_i, max_i, min_i, all_m, any_m, sum_m, tuple_l, tuple_t, list_l, list_t, list_d, dict_d, str_i, str_s, str_o, mkTup_e, mkKey_e, mkLst_e, get_ds, get_di, app_e, put_ds, put_di, put_l0, put_l1, put_l2, fld_0, fld_1, fld_2, fld_3, fld_4, fld_5, fld_6, wipe_0, wipe_s, ev_dc, keyOf_s, keyOf_i, okS_un, okS_sh, okS_us, noOw_0, noOw_s, back_0, back_s, getD_0, getD_s, u_mt__law_bag_1, u_mt__law_bag_2, u_mt__law_bag_3, u_mm__law_bag, u_mm_are_small, u_mm_is_integer, u_mt_are_terms_1, u_mt_are_terms_2, u_mt_are_terms_3, u_mt_are_terms_4, u_mm_are_terms, u_mt_Form___init___1, u_mt_Form___init___2, u_mt_Form___init___3, u_mm_Form___init__, u_mm_form_of, u_mt_Form___add___1, u_mt_Form___add___2, u_mt_Form___add___3, u_mt_Form___add___4, u_mm_Form___add__, u_mm_Form___eq__, u_mm_Form___mul__, u_mm_Form___neg__, u_mt_Form___sub___1, u_mm_Form___sub__, u_mt_shared_factor_1, u_mt_shared_factor_2, u_mm_shared_factor, u_mt_Ratio___init___1, u_mt_Ratio___init___2, u_mt_Ratio___init___3, u_mm_Ratio___init__, u_mm_as_ratio, u_mt_compared_1, u_mm_compared, u_mm_is_above, u_mm_is_fraction, u_mm_are_lengths, u_mt_Ratio___add___1, u_mm_Ratio___add__, u_mt_Ratio___mul___1, u_mm_Ratio___mul__, u_mm_Ratio___rmul__, u_mt_worth_1, u_mt_worth_2, u_mm_worth, u_mm_Form_at, u_mt_Ratio___eq___1, u_mm_Ratio___eq__, u_mt__law_added_1, u_mt__law_added_2, u_mm__law_added, u_mt__law_draw_1, u_mt__law_draw_2, u_mt__law_draw_3, u_mt__law_draw_4, u_mt__law_draw_5, u_mm__law_draw, u_mm__law_one, u_mt__law_drawn_1, u_mt__law_drawn_2, u_mm__law_drawn, u_mm__law_pairs, u_mm__law_due, u_mm__law_shown, u_mt__law_right_1, u_mt__law_right_2, u_mt__law_right_3, u_mt__law_right_4, u_mt__law_right_5, u_mt__law_right_6, u_mt__law_right_7, u_mt__law_right_8, u_mt__law_right_9, u_mt__law_right_10, u_mt__law_right_11, u_mt__law_right_12, u_mt__law_right_13, u_mt__law_right_14, u_mt__law_right_16, u_mt__law_right_17, u_mm__law_right, u_mm_law, e_isint, e_isint_o, e_ratio, e_asr, e_asi, e_fr, e_fri, ltN1, e_faddI, e_fsubI, e_asl, e_lgf, e_shown, e_feqI, decide_true, decide_false, if_true, if_false, Bool.not_true, Bool.not_false, List.length_cons, List.length_nil, Int.cast_ofNat_Int, List.nil_append, List.cons_append, List.append_nil, and_self, and_true, true_and, and_false, false_and, List.length_map, Int.reduceToNat, Int.reducePow, Int.reduceSub, Int.reduceAdd, Int.reduceMul, Int.reduceNeg, $ls,*])
open SL (nm dn gI Bd)
local macro_rules | `(tactic| walk_at "ds") => `(tactic| first | assumption | omega | (simp only [List.length_map, List.length_append, List.length_cons, List.length_nil]; omega) | exact mulOk_n (by omega) (by omega) | exact divOk_b (by omega) (by omega) | (refine id ?_; with_unfolding_all rfl) | (refine id ?_; with_unfolding_all exact Nat.le_of_ble_eq_true rfl) | (simp only [noOw_s, noOw_0, okS_un, okS_sh, okS_us, get_0, get_s, Bool.and_true]; done))
--#NEW
/-! ### the law -/
def E4 (n : Nat) (ρ : Env) : Prop := ∃ b k8 s1 s2 s3 s4 s5 s6 s7 s9 s10 s11 s12 s13, ρ = [.ow b, s1, s2, s3, s4, s5, s6, s7, unS k8, s9, s10, s11, s12, s13] ∧ BagOk n b
section
variable {n : Nat} {b : D} {c1 : Int} {m1 : Nm} {s1 s2 s3 s4 s5 s6 s7 s9 s10 s11 s12 s13 : Slot} {k8 : Option D}
theorem sum_six {ls : Nm} (hk : ls.map (·.1) = six6) : sumT (ng ls) (canon (ng m1)) = (ls.map fun p => p.2 * ng m1 p.1).sum := by
  unfold six6 at hk
  rcases ls with _ | ⟨⟨a1, v1⟩, _ | ⟨⟨a2, v2⟩, _ | ⟨⟨a3, v3⟩, _ | ⟨⟨a4, v4⟩, _ | ⟨⟨a5, v5⟩, _ | ⟨⟨a6, v6⟩, _ | ⟨p, ls⟩⟩⟩⟩⟩⟩⟩ <;> simp only [List.map_cons, List.map_nil, List.cons.injEq, reduceCtorEq, and_false, and_true, false_and] at hk
  obtain ⟨rfl, rfl, rfl, rfl, rfl, rfl⟩ := hk
  rw [sum_canon]
  have e : ∀ c, ng [(97, v1), (98, v2), (99, v3), (120, v4), (121, v5), (122, v6)] c = if c = 97 then v1 else if c = 98 then v2 else if c = 99 then v3 else if c = 120 then v4 else if c = 121 then v5 else if c = 122 then v6 else 0 := fun c => by
    simp only [ng, nO, List.find?_cons, List.find?_nil]
    by_cases h1 : c = 97
    · subst h1; rfl
    by_cases h2 : c = 98
    · subst h2; rfl
    by_cases h3 : c = 99
    · subst h3; rfl
    by_cases h4 : c = 120
    · subst h4; rfl
    by_cases h5 : c = 121
    · subst h5; rfl
    by_cases h6 : c = 122
    · subst h6; rfl
    have n1 : decide (97 = c) = false := decide_eq_false (by omega)
    have n2 : decide (98 = c) = false := decide_eq_false (by omega)
    have n3 : decide (99 = c) = false := decide_eq_false (by omega)
    have n4 : decide (120 = c) = false := decide_eq_false (by omega)
    have n5 : decide (121 = c) = false := decide_eq_false (by omega)
    have n6 : decide (122 = c) = false := decide_eq_false (by omega)
    simp [n1, n2, n3, n4, n5, n6, h1, h2, h3, h4, h5, h6]
  simp only [e]
  simp [List.range']
theorem dput_lv {ls : Nm} {x : Nat} {v : Int} (hx : x ∉ ls.map (·.1)) : dput (ls.map lvD) (.inr [x]) (lgD v) = (ls ++ [(x, v)]).map lvD := by
  have : ((ls.map lvD).any fun kv => decide (kv.1 = (Sum.inr [x] : Ky))) = false := by
    rw [List.any_eq_false]
    intro kv hkv
    obtain ⟨p, hp, rfl⟩ := List.mem_map.mp hkv
    have e : decide ((lvD p).1 = (Sum.inr [x] : Ky)) = decide (p.1 = x) := key_eq p x
    rw [e]
    intro z
    exact hx (List.mem_map.mpr ⟨p, hp, of_decide_eq_true z⟩)
  unfold dput
  rw [this, List.map_append]; rfl
theorem wp_letters {γ : Type} {kk : Out × Env → R γ} {P : γ → Prop} (hb : BagOk n b) (hn : n < 2 ^ 50) (h1 : Nb m1) (hc : c1.natAbs ≤ 2 ^ 50) (h : ∀ b ls W k8 s13, BagOk (n + 60) b → LsOk ls → ls.map (·.1) = six6 → W = 6 * c1 + (ls.map fun p => p.2 * ng m1 p.1).sum → Wn (kk (.nx, [.ow b, s1, .sh (.tup [.int c1, dD m1]), s3, s4, .sh (fm c1 (ng m1)), s6, s7, unS k8, s9, s10, .ow (.dic (ls.map lvD)), .sh (.int W), s13])) P) : Wn (bnd (forGo (gN 8) mt__law_right_2 (List.map (fun c => D.str [c]) [97, 98, 99, 120, 121, 122]) [.ow b, s1, .sh (.tup [.int c1, dD m1]), s3, s4, .sh (fm c1 (ng m1)), s6, s7, unS k8, s9, s10, .ow (.dic []), .sh (.int (6 * c1)), s13]) kk) P := by
  have f1 := h1.ok.ng_bd (by decide)
  refine wp_for (fun j ρ => ∃ b ls W k8 s13, ρ = [.ow b, s1, .sh (.tup [.int c1, dD m1]), s3, s4, .sh (fm c1 (ng m1)), s6, s7, unS k8, s9, s10, .ow (.dic (ls.map lvD)), .sh (.int W), s13] ∧ BagOk (n + 10 * j) b ∧ ls.map (·.1) = six6.take j ∧ (∀ p ∈ ls, 0 ≤ p.2 ∧ p.2 ≤ 500) ∧ W = 6 * c1 + (ls.map fun p => p.2 * ng m1 p.1).sum ∧ W.natAbs ≤ 6 * 2 ^ 50 + j * 2 ^ 60) ⟨b, [], 6 * c1, k8, s13, rfl, hb, rfl, (fun p hp => by cases hp), by simp, by omega⟩ (fun j x ρ hj q => ?_) fun ρ q => ?_
  · obtain ⟨b, ls, W, k8, s13, rfl, hb, hk, hv, hW, hWb⟩ := q
    have lx := six_lt (List.mem_of_getElem? hj)
    have hj6 : j < 6 := (List.getElem?_eq_some_iff.mp hj).1
    have fx := f1 x
    have hlen : ls.length ≤ 6 := by
      have := congrArg List.length hk
      rw [List.length_map, List.length_take] at this
      have : six6.length = 6 := rfl
      omega
    have nx : x ∉ ls.map (·.1) := by
      rw [hk]
      intro z
      have nd : (six6.take (j + 1)).Nodup := (show six6.Nodup by decide).sublist (List.take_sublist ..)
      rw [List.take_add_one, show six6[j]? = some x from hj] at nd
      rw [List.nodup_append] at nd
      exact nd.2.2 _ z _ (by simp) rfl
    exists bnd_ok
    refine wp_draw hb (by omega) (by decide) (by decide) fun t b5 t1 t2 hb5 => ?_
    exists bnd_ok
    refine wp_one hb5 (by omega) (by simp) (by simp) fun z b6 hz hb6 => ?_
    have hz : ∃ v : Int, z = .int v ∧ 0 ≤ v ∧ v ≤ 500 := by
      simp only [List.mem_cons, List.not_mem_nil, or_false] at hz
      rcases hz with rfl | rfl | rfl <;> exact ⟨_, rfl, by omega, by omega⟩
    obtain ⟨v, rfl, v1, v2⟩ := hz
    have pb : -(2 ^ 60) ≤ v * ng m1 x ∧ v * ng m1 x ≤ 2 ^ 60 := by
      have a := Int.natAbs_mul v (ng m1 x)
      have : v.natAbs * (ng m1 x).natAbs ≤ 500 * 1000000000001 := Nat.mul_le_mul (by omega) (by omega)
      omega
    have fin : ∀ b, BagOk (n + 10 * j + 1 + 1) b → ∃ b' ls' W' k8' s13', [Slot.ow b, s1, .sh (.tup [.int c1, dD m1]), s3, s4, .sh (fm c1 (ng m1)), s6, s7, .sh (.str [x]), s9, s10, .ow (.dic (dput (ls.map lvD) (.inr [x]) (lgD v))), .sh (.int (W + v * ng m1 x)), .sh (.int v)] = [Slot.ow b', s1, .sh (.tup [.int c1, dD m1]), s3, s4, .sh (fm c1 (ng m1)), s6, s7, unS k8', s9, s10, .ow (.dic (List.map lvD ls')), .sh (.int W'), s13'] ∧ BagOk (n + 10 * (j + 1)) b' ∧ ls'.map (·.1) = six6.take (j + 1) ∧ (∀ p ∈ ls', 0 ≤ p.2 ∧ p.2 ≤ 500) ∧ W' = 6 * c1 + (ls'.map fun p => p.2 * ng m1 p.1).sum ∧ W'.natAbs ≤ 6 * 2 ^ 50 + (j + 1) * 2 ^ 60 := fun b hb => by
      refine ⟨b, ls ++ [(x, v)], _, some (.str [x]), _, by rw [dput_lv nx]; rfl, hb.mono (by omega), ?_, fun p hp => ?_, ?_, by omega⟩
      · rw [List.map_append, hk, List.take_add_one, show six6[j]? = some x from hj]; rfl
      · rcases List.mem_append.mp hp with hp | hp
        · exact hv p hp
        · rw [List.mem_singleton.mp hp]; exact ⟨v1, v2⟩
      · rw [hW, List.map_append, List.sum_append]
        simp
        omega
    by_cases q : v.fmod 6 = 0
    · exists getD_dD
      rw [show D.int (v.fdiv 6) = lgD v from (if_pos q).symm]
      exact fin _ hb6
    · have := Bd_n (k := 8000) (j := 6) (by decide) (by decide)
      exists getD_dD
      rw [show rat v 6 = lgD v from (if_neg q).symm]
      exact fin _ hb6
  · obtain ⟨b, ls, W, k8, s13, rfl, hb, hk, hv, hW, hWb⟩ := q
    have hb : BagOk (n + 60) b := hb
    have ls6 : ls.length = 6 := by rw [← List.length_map (f := (·.1)), hk]; rfl
    have hk6 : ls.map (·.1) = six6 := hk
    have lsok : LsOk ls := by
      refine ⟨by rw [hk6]; decide, fun p hp => ?_, hv, by omega⟩
      have := List.mem_map_of_mem (f := (·.1)) hp
      rw [hk6] at this
      exact six_lt this
    exact h b ls W k8 s13 hb lsok hk6 hW
theorem r_main {i c2 w : Int} {m2 : Nm} (hb : BagOk n b) (hn : n < 2 ^ 49) (n1 : Nb m1) (n2 : NmOk 6 1000000000001 m2) (l1 : 0 - 7 ≤ c1) (u1 : c1 ≤ 1000000000000) (l2 : 0 - 7 ≤ c2) (u2 : c2 ≤ 1000000000000) (hw : w = 0 ∨ w = 1 ∨ w = -1 ∨ w = 3 ∨ w = -1000000) : Wn (mt__law_right_15 [.ow b, .sh (.int i), .sh (.tup [.int c1, dD m1]), .sh (.tup [.int c2, dD m2]), .sh (.int w), s5, s6, s7, unS k8, s9, s10, s11, s12, s13]) fun r => r.1 = .nx ∧ E4 (n + 100) r.2 := by
  have f1 := n1.ok.ng_bd (by decide)
  have f2 := n2.ng_bd (by decide)
  have hwk : ∀ y : Int, -1000000000001 ≤ y → y ≤ 1000000000001 → -1000000000001000000 ≤ y * w ∧ y * w ≤ 1000000000001000000 := fun y h1 h2 => by
    rcases hw with rfl | rfl | rfl | rfl | rfl <;> omega
  have hw2 : -1000000 ≤ w ∧ w ≤ 3 := by omega
  obtain ⟨r1, x1, g1, e1⟩ := e_added (k := 1) (B'' := 2000000000002) n1.ok n2 (by decide) (by decide) (by decide) (by decide) (by decide) (fun y h1 h2 => by omega)
  obtain ⟨r2, x2, g2, e2⟩ := e_added (k := -1) (B'' := 2000000000002) n1.ok n2 (by decide) (by decide) (by decide) (by decide) (by decide) (fun y h1 h2 => by omega)
  obtain ⟨r3, x3, g3, e3⟩ := e_added (m := []) (k := w) (L := 0) (B := 0) (B'' := 1000000000001000000) NmOk.nil n1.ok (by decide) (by decide) (by decide) (by decide) (by omega) (fun y h1 h2 => by have := hwk y h1 h2; rw [Int.mul_comm] at this; omega)
  obtain ⟨r4, x4, g4, e4⟩ := e_added (m := []) (k := -1) (L := 0) (B := 0) (B'' := 1000000000001) NmOk.nil n1.ok (by decide) (by decide) (by decide) (by decide) (by decide) (fun y h1 h2 => by omega)
  have x3' : F__law_added [.dic [], dD m1, .int w] = .ok (dD r3, true) := x3
  have x4' : F__law_added [.dic [], dD m1, .int (-1)] = .ok (dD r4, true) := x4
  have z0 : ∀ x, ng [] x = 0 := fun x => rfl
  have eA : dueD (c1 + c2) (fun x => ng m1 x + ng m2 x) = dueD (c1 + c2) (ng r1) := due_congr fun x => by rw [e1]; omega
  have eS : dueD (c1 - c2) (fun x => ng m1 x - ng m2 x) = dueD (c1 - c2) (ng r2) := due_congr fun x => by rw [e2]; omega
  have eM : dueD (c1 * w) (fun x => ng m1 x * w) = dueD (c1 * w) (ng r3) := due_congr fun x => by rw [e3, z0, Int.zero_add, Int.mul_comm]
  have eN : dueD (c1 * -1) (fun x => ng m1 x * -1) = dueD (0 - c1) (ng r4) := by
    rw [show c1 * -1 = 0 - c1 by omega]
    exact due_congr fun x => by rw [e4, z0]; omega
  have ne7 : ∀ own xs, (∀ x ∈ xs, ∃ c f, x = dueD c f) → neD own (.lst xs) (.lst xs) = .ok (.bl false, false) := fun own xs hx => by
    have dk : dok dep (.lst xs) = true := dok_lst fun x h => by obtain ⟨c, f, rfl⟩ := hx x h; exact dok_due
    rw [ne_g dk dk, eqv_refl _ _ dk]; rfl
  have eqd : ∀ own c f c' f', eqD own (dueD c f) (dueD c' f') = .ok (.bl (decide (c = c' ∧ canon f = canon f')), false) := fun own c f c' f' => by
    rw [eq_g dok_due dok_due, eqv_due]
  have l7 : ∀ x ∈ [dueD c1 (ng m1), dueD (c1 + c2) (ng r1), dueD (c1 - c2) (ng r2), dueD (c1 * w) (ng r3), dueD (0 - c1) (ng r4), dueD (c1 + w) (ng m1), dueD (c1 - w) (ng m1)], ∃ c f, x = dueD c f := fun x hx => by
    simp only [List.mem_cons, List.not_mem_nil, or_false] at hx
    rcases hx with rfl | rfl | rfl | rfl | rfl | rfl | rfl <;> exact ⟨_, _, rfl⟩
  exists u_mt__law_right_15, e_pairs n1.ok (by decide), e_pairs n2 (by decide), e_form, prm, List.filterMap_cons, List.filterMap_nil, List.getElem?_cons_zero, List.getElem?_cons_succ, e_fadd f1 f2, e_fsub (c' := c2) f1 f2 (by decide) (by omega) (by omega), e_fmul (c := c1) (k := w) f1 (by decide) (by omega) (by omega) (by omega) (by omega) (fun x => hwk _ (f1 x).1 (f1 x).2), e_fneg (c := c1) f1 (by decide) (by omega) (by omega), e_due n1.ok (by decide), e_due n2 (by decide), e_due g1 (by decide), e_due g2 (by decide), e_due g3 (by decide), e_due g4 (by decide), x1, x2, x3', x4', eA, eS, eM, eN, ne7 _ _ l7, eqd, e_feq, lcS_lit, lcGo_s, lcGo_0, for_s, for_0
  refine wp_letters hb (by omega) n1 (by omega) fun b ls W k8 s13 hb lsok hk6 hW => ?_
  have hd : ∀ p ∈ canon (ng m1), nO ls p.1 ≠ none := fun p hp z => by
    have h0 := (mem_canon.mp hp).2.1
    cases e : nO m1 p.1 with
    | none => unfold ng at h0; rw [e] at h0; exact h0 rfl
    | some v =>
      have := n1.in6 _ (nO_some e)
      rw [← hk6] at this
      exact nO_none z this
  have ea := e_at (c := c1) (f := ng m1) lsok (by omega) (fun x => by have := f1 x; omega) hd
  rw [sum_six hk6, ← hW] at ea
  have := Bd_n (k := 8000) (j := 6) (by decide) (by decide)
  have eq := e_eq (n1 := W) (d1 := 6) (n2 := W) (d2 := 6) (by decide) (by decide)
  rw [decide_eq_true rfl] at eq
  exists ea, eq, prm, List.filterMap_cons, List.filterMap_nil, List.getElem?_cons_zero
  exact ⟨b, k8, _, _, _, _, _, _, _, _, _, _, _, s13, rfl, hb.mono (by omega)⟩
theorem r_round {i : Int} (hb : BagOk n b) (hn : n < 2 ^ 48) : Wn (mt__law_right_18 [.ow b, .sh (.int i), s2, s3, s4, s5, s6, s7, unS k8, s9, s10, s11, s12, s13]) fun r => r.1 = .nx ∧ E4 (n + 1000) r.2 := by
  exists u_mt__law_right_18
  refine wp_drawn hb (by omega) fun c1 m1 b1 n1 l1 u1 hb1 => ?_
  exists bnd_ok
  refine wp_drawn hb1 (by omega) fun c2 m2 b2 n2 l2 u2 hb2 => ?_
  exists bnd_ok
  refine wp_one hb2 (by omega) (by simp) (by simp) fun z b3 hz hb3 => ?_
  have hz : ∃ w : Int, z = .int w ∧ (w = 0 ∨ w = 1 ∨ w = -1 ∨ w = 3 ∨ w = -1000000) := by
    simp only [List.mem_cons, List.not_mem_nil, or_false] at hz
    rcases hz with rfl | rfl | rfl | rfl | rfl <;> exact ⟨_, rfl, by decide⟩
  obtain ⟨w, rfl, hw⟩ := hz
  have fin : ∀ r : Out × Env, r.1 = .nx ∧ E4 (n + 100 + 100 + 1 + 1 + 100) r.2 → r.1 = .nx ∧ E4 (n + 1000) r.2 := fun r ⟨h1, b, k8, t1, t2, t3, t4, t5, t6, t7, t9, t10, t11, t12, t13, h2, h3⟩ => ⟨h1, b, k8, t1, t2, t3, t4, t5, t6, t7, t9, t10, t11, t12, t13, h2, h3.mono (by omega)⟩
  exists bnd_ok
  refine wp_draw hb3 (by omega) (by decide) (by decide) fun t b4 t1 t2 hb4 => ?_
  by_cases q : t = 0
  · obtain ⟨r, e, hr, _⟩ := e_added (m := []) (m' := m1) (k := -1) (L := 0) (B := 0) (B'' := 1000000000001) NmOk.nil n1.ok (by decide) (by decide) (by decide) (by decide) (by decide) (fun y h1 h2 => by omega)
    have e : F__law_added [.dic [], dD m1, .int (-1)] = .ok (dD r, true) := e
    exists e
    exact (r_main hb4 (by omega) n1 hr l1 u1 l2 u2 hw).mono fin
  · exists bnd_ok
    exact (r_main hb4 (by omega) n1 n2.ok l1 u1 l2 u2 hw).mono fin
theorem wp_right {γ : Type} {kk : Rv × D → R γ} {P : γ → Prop} (hb : BagOk n b) (hn : n < 2 ^ 40) (h : ∀ d', Wn (kk ((.bl true, false), d')) P) : Wn (bnd (F__law_right [] b) kk) P := by
  rw [o__law_right]
  exists bnd_ok
  rw [show rng 0 5 = (List.range 5).map (fun (i : Nat) => D.int i) from rng_map 5]
  refine wp_for (fun i ρ => E4 (n + 1000 * i) ρ) ⟨b, none, _, _, _, _, _, _, _, _, _, _, _, _, rfl, hb⟩ (fun i x ρ hx q => ?_) fun ρ q => ?_
  · obtain ⟨b, k8, s1, s2, s3, s4, s5, s6, s7, s9, s10, s11, s12, s13, rfl, hb⟩ := q
    have hi : i < 5 := by
      have := (List.getElem?_eq_some_iff.mp hx).1
      rw [List.length_range] at this
      exact this
    simp -dsimp only [ev_gN, set_0, set_s, bnd_ok]
    refine (r_round hb (by omega)).mono fun r ⟨h1, h2⟩ => ?_
    obtain ⟨o, ρ'⟩ := r
    dsimp only at h1
    subst h1
    obtain ⟨b, k8, t1, t2, t3, t4, t5, t6, t7, t9, t10, t11, t12, t13, h2, h3⟩ := h2
    exact ⟨b, k8, t1, t2, t3, t4, t5, t6, t7, t9, t10, t11, t12, t13, h2, h3.mono (by omega)⟩
  · obtain ⟨b, k8, s1, s2, s3, s4, s5, s6, s7, s9, s10, s11, s12, s13, rfl, hb⟩ := q
    have f0 : ∀ c : Int, mkObj 1 F_Form___init__ [.int c, .tup []] = .ok (fm c fun _ => 0, false) := fun c => by
      have := e_form (c := c) (f := fun _ => 0)
      exact this
    exists f0, e_feq
    exact h _
end
/-! ### the whole law -/
theorem law_true (ns : List Int) (h : ns.length ≤ 63) : F_law [.fls (ns.map D.int)] = .ok (.bl true, false) := by
  refine Wn.eq ?_
  rw [o_law]
  exists rng_map
  refine wp_lc (fun n acc ρ => acc = List.replicate n (.bl true) ∧ ∃ s, ρ = [.sh (.fls (ns.map D.int)), s] ∧ okS (some s) = true) rfl (by rw [List.length_range]; omega) ⟨rfl, .un, rfl, rfl⟩ (fun n x acc ρ hx q => ?_) fun acc ρ q => ?_
  · obtain ⟨rfl, s, rfl, hs⟩ := q
    have hx2 := List.getElem?_eq_some_iff.mp hx
    obtain ⟨hl, e⟩ := hx2
    rw [List.length_range] at hl
    rw [List.getElem_range] at e
    subst e
    exists bnd_ok
    refine wp_bag (by omega) (by omega) fun b hb => ?_
    exists bnd_ok
    refine wp_right hb (by decide) fun d' => ?_
    exists bnd_ok
    exact ⟨by rw [List.replicate_succ'], _, rfl, rfl⟩
  · obtain ⟨rfl, s, rfl, hs⟩ := q
    have e : ∀ n, List.replicate n (D.bl true) = (List.range n).map fun _ => D.bl true := fun n => by induction n with | zero => rfl | succ n ih => rw [List.replicate_succ', ih, List.range_succ, List.map_append]; rfl
    exists e, all_true

end DY

set_option Elab.async false
set_option linter.all false
set_option maxRecDepth 100000
set_option maxHeartbeats 4000000
namespace DY
open PySem L2 SL
/-! ### the text by places -/
def topS (i : Nat) : Stmt := PySem.Challenge.pw_slackstrings_k04_forms_reckoned.main.body.getD i (.Pass ⟨0, 0, 0, 0⟩)
abbrev st__law_bag : Stmt := (topS 28)
abbrev st_are_small : Stmt := (topS 3)
abbrev st_is_integer : Stmt := (topS 2)
abbrev st_are_terms : Stmt := (topS 20)
abbrev st_Form___init__ : Stmt := (inClass (topS 26) 0)
abbrev st_form_of : Stmt := (topS 22)
abbrev st_Form___add__ : Stmt := (inClass (topS 26) 2)
abbrev st_Form___eq__ : Stmt := (inClass (topS 26) 6)
abbrev st_Form___mul__ : Stmt := (inClass (topS 26) 4)
abbrev st_Form___neg__ : Stmt := (inClass (topS 26) 5)
abbrev st_Form___sub__ : Stmt := (inClass (topS 26) 3)
abbrev st_shared_factor : Stmt := (topS 11)
abbrev st_Ratio___init__ : Stmt := (inClass (topS 18) 0)
abbrev st_as_ratio : Stmt := (topS 13)
abbrev st_compared : Stmt := (topS 14)
abbrev st_is_above : Stmt := (topS 15)
abbrev st_is_fraction : Stmt := (topS 12)
abbrev st_are_lengths : Stmt := (topS 21)
abbrev st_Ratio___add__ : Stmt := (inClass (topS 18) 4)
abbrev st_Ratio___mul__ : Stmt := (inClass (topS 18) 8)
abbrev st_Ratio___rmul__ : Stmt := (inClass (topS 18) 9)
abbrev st_worth : Stmt := (topS 23)
abbrev st_Form_at : Stmt := (inClass (topS 26) 1)
abbrev st_Ratio___eq__ : Stmt := (inClass (topS 18) 11)
abbrev st__law_added : Stmt := (topS 35)
abbrev st__law_draw : Stmt := (topS 29)
abbrev st__law_one : Stmt := (topS 30)
abbrev st__law_drawn : Stmt := (topS 31)
abbrev st__law_pairs : Stmt := (topS 32)
abbrev st__law_due : Stmt := (topS 34)
abbrev st__law_shown : Stmt := (topS 33)
abbrev st__law_right : Stmt := (topS 36)
abbrev st_law : Stmt := (topS 37)
abbrev nm__law_bag : List Str := ["_law_cells", "_law_k", "_law_cell", "_law_seed", "_law_this", "_law_figures"]
abbrev nm_are_small : List Str := ["value", "least", "most", "sign"]
abbrev nm_is_integer : List Str := ["value"]
abbrev nm_are_terms : List Str := ["value", "before", "pair"]
abbrev nm_Form___init__ : List Str := ["self", "constant", "terms", "pair"]
abbrev nm_form_of : List Str := ["constant", "numbers", "names", "name"]
abbrev nm_Form___add__ : List Str := ["self", "other", "numbers", "name", "times"]
abbrev nm_Form___eq__ : List Str := ["self", "other"]
abbrev nm_Form___mul__ : List Str := ["self", "other", "name", "times"]
abbrev nm_Form___neg__ : List Str := ["self"]
abbrev nm_Form___sub__ : List Str := ["self", "other"]
abbrev nm_shared_factor : List Str := ["one", "two", "high", "low"]
abbrev nm_Ratio___init__ : List Str := ["self", "top", "bottom", "factor"]
abbrev nm_as_ratio : List Str := ["value"]
abbrev nm_compared : List Str := ["one", "other", "left", "right"]
abbrev nm_is_above : List Str := ["one", "other"]
abbrev nm_is_fraction : List Str := ["value"]
abbrev nm_are_lengths : List Str := ["value", "name"]
abbrev nm_Ratio___add__ : List Str := ["self", "other", "by"]
abbrev nm_Ratio___mul__ : List Str := ["self", "other", "by"]
abbrev nm_Ratio___rmul__ : List Str := ["self", "other"]
abbrev nm_worth : List Str := ["form", "lengths", "found", "name", "times"]
abbrev nm_Form_at : List Str := ["self", "lengths", "name"]
abbrev nm_Ratio___eq__ : List Str := ["self", "other", "by"]
abbrev nm__law_added : List Str := ["_law_one_here", "_law_two", "_law_by", "_law_found", "_law_each"]
abbrev nm__law_draw : List Str := ["_law_bag_here", "_law_wide", "_law_figure", "_law_held", "_law_times"]
abbrev nm__law_one : List Str := ["_law_bag_here", "_law_some"]
abbrev nm__law_drawn : List Str := ["_law_bag_here", "_law_numbers", "_law_turn", "_law_size_here"]
abbrev nm__law_pairs : List Str := ["_law_numbers", "_law_each"]
abbrev nm__law_due : List Str := ["_law_first", "_law_numbers", "_law_pairs_here", "_law_pair"]
abbrev nm__law_shown : List Str := ["_law_made"]
abbrev nm__law_right : List Str := ["_law_bag_here", "_law_turn", "_law_one_here", "_law_two", "_law_by", "_law_mine", "_law_mate", "_law_found", "_law_each", "_law_due_here", "_law_alike_here", "_law_longs", "_law_worth_here", "_law_sixths"]
abbrev nm_law : List Str := ["_law_cells", "_law_k"]
theorem sc__law_bag : FnScope nm__law_bag ["_law_cells", "_law_k"] (defScope st__law_bag) := ⟨rfl, rfl, rfl, by decide +kernel, rfl, by decide +kernel, by decide +kernel⟩
theorem sc_are_small : FnScope nm_are_small ["value", "least", "most"] (defScope st_are_small) := ⟨rfl, rfl, rfl, by decide +kernel, rfl, by decide +kernel, by decide +kernel⟩
theorem sc_is_integer : FnScope nm_is_integer ["value"] (defScope st_is_integer) := ⟨rfl, rfl, rfl, by decide +kernel, rfl, by decide +kernel, by decide +kernel⟩
theorem sc_are_terms : FnScope nm_are_terms ["value"] (defScope st_are_terms) := ⟨rfl, rfl, rfl, by decide +kernel, rfl, by decide +kernel, by decide +kernel⟩
theorem sc_Form___init__ : FnScope nm_Form___init__ ["self", "constant", "terms"] (defScope st_Form___init__) := ⟨rfl, rfl, rfl, by decide +kernel, rfl, by decide +kernel, by decide +kernel⟩
theorem sc_form_of : FnScope nm_form_of ["constant", "numbers"] (defScope st_form_of) := ⟨rfl, rfl, rfl, by decide +kernel, rfl, by decide +kernel, by decide +kernel⟩
theorem sc_Form___add__ : FnScope nm_Form___add__ ["self", "other"] (defScope st_Form___add__) := ⟨rfl, rfl, rfl, by decide +kernel, rfl, by decide +kernel, by decide +kernel⟩
theorem sc_Form___eq__ : FnScope nm_Form___eq__ ["self", "other"] (defScope st_Form___eq__) := ⟨rfl, rfl, rfl, by decide +kernel, rfl, by decide +kernel, by decide +kernel⟩
theorem sc_Form___mul__ : FnScope nm_Form___mul__ ["self", "other"] (defScope st_Form___mul__) := ⟨rfl, rfl, rfl, by decide +kernel, rfl, by decide +kernel, by decide +kernel⟩
theorem sc_Form___neg__ : FnScope nm_Form___neg__ ["self"] (defScope st_Form___neg__) := ⟨rfl, rfl, rfl, by decide +kernel, rfl, by decide +kernel, by decide +kernel⟩
theorem sc_Form___sub__ : FnScope nm_Form___sub__ ["self", "other"] (defScope st_Form___sub__) := ⟨rfl, rfl, rfl, by decide +kernel, rfl, by decide +kernel, by decide +kernel⟩
theorem sc_shared_factor : FnScope nm_shared_factor ["one", "two"] (defScope st_shared_factor) := ⟨rfl, rfl, rfl, by decide +kernel, rfl, by decide +kernel, by decide +kernel⟩
theorem sc_Ratio___init__ : FnScope nm_Ratio___init__ ["self", "top", "bottom"] (defScope st_Ratio___init__) := ⟨rfl, rfl, rfl, by decide +kernel, rfl, by decide +kernel, by decide +kernel⟩
theorem sc_as_ratio : FnScope nm_as_ratio ["value"] (defScope st_as_ratio) := ⟨rfl, rfl, rfl, by decide +kernel, rfl, by decide +kernel, by decide +kernel⟩
theorem sc_compared : FnScope nm_compared ["one", "other"] (defScope st_compared) := ⟨rfl, rfl, rfl, by decide +kernel, rfl, by decide +kernel, by decide +kernel⟩
theorem sc_is_above : FnScope nm_is_above ["one", "other"] (defScope st_is_above) := ⟨rfl, rfl, rfl, by decide +kernel, rfl, by decide +kernel, by decide +kernel⟩
theorem sc_is_fraction : FnScope nm_is_fraction ["value"] (defScope st_is_fraction) := ⟨rfl, rfl, rfl, by decide +kernel, rfl, by decide +kernel, by decide +kernel⟩
theorem sc_are_lengths : FnScope nm_are_lengths ["value"] (defScope st_are_lengths) := ⟨rfl, rfl, rfl, by decide +kernel, rfl, by decide +kernel, by decide +kernel⟩
theorem sc_Ratio___add__ : FnScope nm_Ratio___add__ ["self", "other"] (defScope st_Ratio___add__) := ⟨rfl, rfl, rfl, by decide +kernel, rfl, by decide +kernel, by decide +kernel⟩
theorem sc_Ratio___mul__ : FnScope nm_Ratio___mul__ ["self", "other"] (defScope st_Ratio___mul__) := ⟨rfl, rfl, rfl, by decide +kernel, rfl, by decide +kernel, by decide +kernel⟩
theorem sc_Ratio___rmul__ : FnScope nm_Ratio___rmul__ ["self", "other"] (defScope st_Ratio___rmul__) := ⟨rfl, rfl, rfl, by decide +kernel, rfl, by decide +kernel, by decide +kernel⟩
theorem sc_worth : FnScope nm_worth ["form", "lengths"] (defScope st_worth) := ⟨rfl, rfl, rfl, by decide +kernel, rfl, by decide +kernel, by decide +kernel⟩
theorem sc_Form_at : FnScope nm_Form_at ["self", "lengths"] (defScope st_Form_at) := ⟨rfl, rfl, rfl, by decide +kernel, rfl, by decide +kernel, by decide +kernel⟩
theorem sc_Ratio___eq__ : FnScope nm_Ratio___eq__ ["self", "other"] (defScope st_Ratio___eq__) := ⟨rfl, rfl, rfl, by decide +kernel, rfl, by decide +kernel, by decide +kernel⟩
theorem sc__law_added : FnScope nm__law_added ["_law_one_here", "_law_two", "_law_by"] (defScope st__law_added) := ⟨rfl, rfl, rfl, by decide +kernel, rfl, by decide +kernel, by decide +kernel⟩
theorem sc__law_draw : FnScope nm__law_draw ["_law_bag_here", "_law_wide"] (defScope st__law_draw) := ⟨rfl, rfl, rfl, by decide +kernel, rfl, by decide +kernel, by decide +kernel⟩
theorem sc__law_one : FnScope nm__law_one ["_law_bag_here", "_law_some"] (defScope st__law_one) := ⟨rfl, rfl, rfl, by decide +kernel, rfl, by decide +kernel, by decide +kernel⟩
theorem sc__law_drawn : FnScope nm__law_drawn ["_law_bag_here"] (defScope st__law_drawn) := ⟨rfl, rfl, rfl, by decide +kernel, rfl, by decide +kernel, by decide +kernel⟩
theorem sc__law_pairs : FnScope nm__law_pairs ["_law_numbers"] (defScope st__law_pairs) := ⟨rfl, rfl, rfl, by decide +kernel, rfl, by decide +kernel, by decide +kernel⟩
theorem sc__law_due : FnScope nm__law_due ["_law_first", "_law_numbers"] (defScope st__law_due) := ⟨rfl, rfl, rfl, by decide +kernel, rfl, by decide +kernel, by decide +kernel⟩
theorem sc__law_shown : FnScope nm__law_shown ["_law_made"] (defScope st__law_shown) := ⟨rfl, rfl, rfl, by decide +kernel, rfl, by decide +kernel, by decide +kernel⟩
theorem sc__law_right : FnScope nm__law_right ["_law_bag_here"] (defScope st__law_right) := ⟨rfl, rfl, rfl, by decide +kernel, rfl, by decide +kernel, by decide +kernel⟩
theorem sc_law : FnScope nm_law ["_law_cells"] (defScope st_law) := ⟨rfl, rfl, rfl, by decide +kernel, rfl, by decide +kernel, by decide +kernel⟩
/-- the defs' addresses and data -/
structure Fx where
  f__law_bag : Addr
  d__law_bag : FuncData
  f_are_small : Addr
  d_are_small : FuncData
  f_is_integer : Addr
  d_is_integer : FuncData
  f_are_terms : Addr
  d_are_terms : FuncData
  f_Form___init__ : Addr
  d_Form___init__ : FuncData
  f_form_of : Addr
  d_form_of : FuncData
  f_Form___add__ : Addr
  d_Form___add__ : FuncData
  f_Form___eq__ : Addr
  d_Form___eq__ : FuncData
  f_Form___mul__ : Addr
  d_Form___mul__ : FuncData
  f_Form___neg__ : Addr
  d_Form___neg__ : FuncData
  f_Form___sub__ : Addr
  d_Form___sub__ : FuncData
  f_shared_factor : Addr
  d_shared_factor : FuncData
  f_Ratio___init__ : Addr
  d_Ratio___init__ : FuncData
  f_as_ratio : Addr
  d_as_ratio : FuncData
  f_compared : Addr
  d_compared : FuncData
  f_is_above : Addr
  d_is_above : FuncData
  f_is_fraction : Addr
  d_is_fraction : FuncData
  f_are_lengths : Addr
  d_are_lengths : FuncData
  f_Ratio___add__ : Addr
  d_Ratio___add__ : FuncData
  f_Ratio___mul__ : Addr
  d_Ratio___mul__ : FuncData
  f_Ratio___rmul__ : Addr
  d_Ratio___rmul__ : FuncData
  f_worth : Addr
  d_worth : FuncData
  f_Form_at : Addr
  d_Form_at : FuncData
  f_Ratio___eq__ : Addr
  d_Ratio___eq__ : FuncData
  f__law_added : Addr
  d__law_added : FuncData
  f__law_draw : Addr
  d__law_draw : FuncData
  f__law_one : Addr
  d__law_one : FuncData
  f__law_drawn : Addr
  d__law_drawn : FuncData
  f__law_pairs : Addr
  d__law_pairs : FuncData
  f__law_due : Addr
  d__law_due : FuncData
  f__law_shown : Addr
  d__law_shown : FuncData
  f__law_right : Addr
  d__law_right : FuncData
  f_law : Addr
  d_law : FuncData
  fo_Form_add : Option Value
  ro_Form_add : Option Value
  fo_Form_mul : Option Value
  ro_Form_mul : Option Value
  fo_Form_sub : Option Value
  ro_Form_sub : Option Value
  fo_Ratio_add : Option Value
  ro_Ratio_add : Option Value
  fo_Ratio_mul : Option Value
  ro_Ratio_mul : Option Value
  emp : Addr
/-- what the top has written -/
structure Txt (K : PySem.W.Frag) (mg : Str → Option Value) (A : CT) (x : Fx) : Prop where
  kd : KD K A
  in_Form : 1 ∈ A.cs
  in_Ratio : 0 ∈ A.cs
  F__law_bag : Fun K "_law_bag" "_law_bag" st__law_bag x.f__law_bag x.d__law_bag
  b__law_bag : Binds K x.d__law_bag ["_law_cells", "_law_k"] []
  F_are_small : Fun K "are_small" "are_small" st_are_small x.f_are_small x.d_are_small
  b_are_small : Binds K x.d_are_small ["value", "least", "most"] []
  F_is_integer : Fun K "is_integer" "is_integer" st_is_integer x.f_is_integer x.d_is_integer
  b_is_integer : Binds K x.d_is_integer ["value"] []
  F_are_terms : Fun K "are_terms" "are_terms" st_are_terms x.f_are_terms x.d_are_terms
  b_are_terms : Binds K x.d_are_terms ["value"] []
  F_Form___init__ : FunD K "__init__" "Form.__init__" (defArgs st_Form___init__) (defBody st_Form___init__) (defScope st_Form___init__) [.int 0, .ref x.emp] [] x.f_Form___init__ x.d_Form___init__
  b_Form___init__ : Binds K x.d_Form___init__ ["self", "constant", "terms"] []
  F_form_of : Fun K "form_of" "form_of" st_form_of x.f_form_of x.d_form_of
  b_form_of : Binds K x.d_form_of ["constant", "numbers"] []
  F_Form___add__ : Fun K "__add__" "Form.__add__" st_Form___add__ x.f_Form___add__ x.d_Form___add__
  b_Form___add__ : Binds K x.d_Form___add__ ["self", "other"] []
  F_Form___eq__ : Fun K "__eq__" "Form.__eq__" st_Form___eq__ x.f_Form___eq__ x.d_Form___eq__
  b_Form___eq__ : Binds K x.d_Form___eq__ ["self", "other"] []
  F_Form___mul__ : Fun K "__mul__" "Form.__mul__" st_Form___mul__ x.f_Form___mul__ x.d_Form___mul__
  b_Form___mul__ : Binds K x.d_Form___mul__ ["self", "other"] []
  F_Form___neg__ : Fun K "__neg__" "Form.__neg__" st_Form___neg__ x.f_Form___neg__ x.d_Form___neg__
  b_Form___neg__ : Binds K x.d_Form___neg__ ["self"] []
  F_Form___sub__ : Fun K "__sub__" "Form.__sub__" st_Form___sub__ x.f_Form___sub__ x.d_Form___sub__
  b_Form___sub__ : Binds K x.d_Form___sub__ ["self", "other"] []
  F_shared_factor : Fun K "shared_factor" "shared_factor" st_shared_factor x.f_shared_factor x.d_shared_factor
  b_shared_factor : Binds K x.d_shared_factor ["one", "two"] []
  F_Ratio___init__ : FunD K "__init__" "Ratio.__init__" (defArgs st_Ratio___init__) (defBody st_Ratio___init__) (defScope st_Ratio___init__) [.int 1] [] x.f_Ratio___init__ x.d_Ratio___init__
  b_Ratio___init__ : Binds K x.d_Ratio___init__ ["self", "top", "bottom"] []
  F_as_ratio : Fun K "as_ratio" "as_ratio" st_as_ratio x.f_as_ratio x.d_as_ratio
  b_as_ratio : Binds K x.d_as_ratio ["value"] []
  F_compared : Fun K "compared" "compared" st_compared x.f_compared x.d_compared
  b_compared : Binds K x.d_compared ["one", "other"] []
  F_is_above : Fun K "is_above" "is_above" st_is_above x.f_is_above x.d_is_above
  b_is_above : Binds K x.d_is_above ["one", "other"] []
  F_is_fraction : Fun K "is_fraction" "is_fraction" st_is_fraction x.f_is_fraction x.d_is_fraction
  b_is_fraction : Binds K x.d_is_fraction ["value"] []
  F_are_lengths : Fun K "are_lengths" "are_lengths" st_are_lengths x.f_are_lengths x.d_are_lengths
  b_are_lengths : Binds K x.d_are_lengths ["value"] []
  F_Ratio___add__ : Fun K "__add__" "Ratio.__add__" st_Ratio___add__ x.f_Ratio___add__ x.d_Ratio___add__
  b_Ratio___add__ : Binds K x.d_Ratio___add__ ["self", "other"] []
  F_Ratio___mul__ : Fun K "__mul__" "Ratio.__mul__" st_Ratio___mul__ x.f_Ratio___mul__ x.d_Ratio___mul__
  b_Ratio___mul__ : Binds K x.d_Ratio___mul__ ["self", "other"] []
  F_Ratio___rmul__ : Fun K "__rmul__" "Ratio.__rmul__" st_Ratio___rmul__ x.f_Ratio___rmul__ x.d_Ratio___rmul__
  b_Ratio___rmul__ : Binds K x.d_Ratio___rmul__ ["self", "other"] []
  F_worth : Fun K "worth" "worth" st_worth x.f_worth x.d_worth
  b_worth : Binds K x.d_worth ["form", "lengths"] []
  F_Form_at : Fun K "at" "Form.at" st_Form_at x.f_Form_at x.d_Form_at
  b_Form_at : Binds K x.d_Form_at ["self", "lengths"] []
  F_Ratio___eq__ : Fun K "__eq__" "Ratio.__eq__" st_Ratio___eq__ x.f_Ratio___eq__ x.d_Ratio___eq__
  b_Ratio___eq__ : Binds K x.d_Ratio___eq__ ["self", "other"] []
  F__law_added : Fun K "_law_added" "_law_added" st__law_added x.f__law_added x.d__law_added
  b__law_added : Binds K x.d__law_added ["_law_one_here", "_law_two", "_law_by"] []
  F__law_draw : Fun K "_law_draw" "_law_draw" st__law_draw x.f__law_draw x.d__law_draw
  b__law_draw : Binds K x.d__law_draw ["_law_bag_here", "_law_wide"] []
  F__law_one : Fun K "_law_one" "_law_one" st__law_one x.f__law_one x.d__law_one
  b__law_one : Binds K x.d__law_one ["_law_bag_here", "_law_some"] []
  F__law_drawn : Fun K "_law_drawn" "_law_drawn" st__law_drawn x.f__law_drawn x.d__law_drawn
  b__law_drawn : Binds K x.d__law_drawn ["_law_bag_here"] []
  F__law_pairs : Fun K "_law_pairs" "_law_pairs" st__law_pairs x.f__law_pairs x.d__law_pairs
  b__law_pairs : Binds K x.d__law_pairs ["_law_numbers"] []
  F__law_due : Fun K "_law_due" "_law_due" st__law_due x.f__law_due x.d__law_due
  b__law_due : Binds K x.d__law_due ["_law_first", "_law_numbers"] []
  F__law_shown : Fun K "_law_shown" "_law_shown" st__law_shown x.f__law_shown x.d__law_shown
  b__law_shown : Binds K x.d__law_shown ["_law_made"] []
  F__law_right : Fun K "_law_right" "_law_right" st__law_right x.f__law_right x.d__law_right
  b__law_right : Binds K x.d__law_right ["_law_bag_here"] []
  F_law : Fun K "law" "law" st_law x.f_law x.d_law
  b_law : Binds K x.d_law ["_law_cells"] []
  g__law_added : mg "_law_added" = some (.ref x.f__law_added)
  g__law_bag : mg "_law_bag" = some (.ref x.f__law_bag)
  g__law_draw : mg "_law_draw" = some (.ref x.f__law_draw)
  g__law_drawn : mg "_law_drawn" = some (.ref x.f__law_drawn)
  g__law_due : mg "_law_due" = some (.ref x.f__law_due)
  g__law_one : mg "_law_one" = some (.ref x.f__law_one)
  g__law_pairs : mg "_law_pairs" = some (.ref x.f__law_pairs)
  g__law_right : mg "_law_right" = some (.ref x.f__law_right)
  g__law_shown : mg "_law_shown" = some (.ref x.f__law_shown)
  g_are_lengths : mg "are_lengths" = some (.ref x.f_are_lengths)
  g_are_small : mg "are_small" = some (.ref x.f_are_small)
  g_are_terms : mg "are_terms" = some (.ref x.f_are_terms)
  g_as_ratio : mg "as_ratio" = some (.ref x.f_as_ratio)
  g_compared : mg "compared" = some (.ref x.f_compared)
  g_form_of : mg "form_of" = some (.ref x.f_form_of)
  g_is_above : mg "is_above" = some (.ref x.f_is_above)
  g_is_fraction : mg "is_fraction" = some (.ref x.f_is_fraction)
  g_is_integer : mg "is_integer" = some (.ref x.f_is_integer)
  g_shared_factor : mg "shared_factor" = some (.ref x.f_shared_factor)
  g_worth : mg "worth" = some (.ref x.f_worth)
  n_abs : mg "abs" = none
  n_all : mg "all" = none
  n_bool : mg "bool" = none
  n_dict : mg "dict" = none
  n_int : mg "int" = none
  n_isinstance : mg "isinstance" = none
  n_len : mg "len" = none
  n_list : mg "list" = none
  n_max : mg "max" = none
  n_min : mg "min" = none
  n_range : mg "range" = none
  n_sorted : mg "sorted" = none
  n_str : mg "str" = none
  n_tuple : mg "tuple" = none
  g_Form : mg "Form" = some (.ref (A.ad 1))
  cl_Form : Cls K (A.ad 1)
  nl_Form : (A.nms 1).length ≤ 900
  sf_Form : PySem.W.selfFirst K (A.ad 1) = true
  int_Form : PySem.W.subIn K (.type "int") (.ref (A.ad 1)) = some false
  sub_Form : PySem.W.subIn K (.ref (A.ad 1)) (.type "int") = some false
  mk_Form : Mk K (A.ad 1) x.f_Form___init__
  g_Ratio : mg "Ratio" = some (.ref (A.ad 0))
  cl_Ratio : Cls K (A.ad 0)
  nl_Ratio : (A.nms 0).length ≤ 900
  sf_Ratio : PySem.W.selfFirst K (A.ad 0) = true
  int_Ratio : PySem.W.subIn K (.type "int") (.ref (A.ad 0)) = some false
  sub_Ratio : PySem.W.subIn K (.ref (A.ad 0)) (.type "int") = some false
  mk_Ratio : Mk K (A.ad 0) x.f_Ratio___init__
  fl_Form_constant : FldOk K A 1 0 "constant"
  fl_Form_names : FldOk K A 1 2 "names"
  fl_Form_terms : FldOk K A 1 1 "terms"
  fl_Ratio_bottom : FldOk K A 0 1 "bottom"
  fl_Ratio_top : FldOk K A 0 0 "top"
  m_Form_at : Meth K (A.ad 1) "at" x.f_Form_at
  nm_Form_at : ("at" : Str) ∉ A.nms 1
  o_Form_add : OwnOp K (A.ad 1) x.f_Form___add__ (PySem.dunder "add")
  nr_Form_add : PySem.W.findIn K (.ref (A.ad 1)) (dunderR "add") = some none
  i1_Form_add : PySem.W.findIn K (.type "int") (PySem.dunder "add") = some x.fo_Form_add
  i2_Form_add : PySem.W.findIn K (.type "int") (dunderR "add") = some x.ro_Form_add
  o_Form_mul : OwnOp K (A.ad 1) x.f_Form___mul__ (PySem.dunder "mul")
  nr_Form_mul : PySem.W.findIn K (.ref (A.ad 1)) (dunderR "mul") = some none
  i1_Form_mul : PySem.W.findIn K (.type "int") (PySem.dunder "mul") = some x.fo_Form_mul
  i2_Form_mul : PySem.W.findIn K (.type "int") (dunderR "mul") = some x.ro_Form_mul
  o_Form_sub : OwnOp K (A.ad 1) x.f_Form___sub__ (PySem.dunder "sub")
  nr_Form_sub : PySem.W.findIn K (.ref (A.ad 1)) (dunderR "sub") = some none
  i1_Form_sub : PySem.W.findIn K (.type "int") (PySem.dunder "sub") = some x.fo_Form_sub
  i2_Form_sub : PySem.W.findIn K (.type "int") (dunderR "sub") = some x.ro_Form_sub
  o_Ratio_add : OwnOp K (A.ad 0) x.f_Ratio___add__ (PySem.dunder "add")
  o_Ratio_mul : OwnOp K (A.ad 0) x.f_Ratio___mul__ (PySem.dunder "mul")
  r_Ratio_mul : Refl K (A.ad 0) x.f_Ratio___mul__ x.f_Ratio___rmul__ "mul" x.fo_Ratio_mul x.ro_Ratio_mul
  o_Form_eq : OwnOp K (A.ad 1) x.f_Form___eq__ "__eq__"
  ne_Form : PySem.W.findIn K (.ref (A.ad 1)) "__ne__" = some (some (.builtin "object.__ne__"))
  ob_Form : PySem.W.subIn K (.ref (A.ad 1)) (.type "object") = some true
  o_Ratio_eq : OwnOp K (A.ad 0) x.f_Ratio___eq__ "__eq__"
  ne_Ratio : PySem.W.findIn K (.ref (A.ad 0)) "__ne__" = some (some (.builtin "object.__ne__"))
  ob_Ratio : PySem.W.subIn K (.ref (A.ad 0)) (.type "object") = some true
  o_Form_neg : OwnOp K (A.ad 1) x.f_Form___neg__ "__neg__"
  emp : ∀ {G : Hp}, Rep K A G (.ref x.emp) (.tup [])
  kb_Form___init___0_terms_constant : ∃ g, KBn K x.d_Form___init__ ["self", "constant", "terms"] 1 ["terms", "constant"] g (prm [1, 0])
  kb_Form_at_0_lengths : ∃ g, KBn K x.d_Form_at ["self", "lengths"] 1 ["lengths"] g (prm [0])
  bd_Form___init___1 : ∃ ds, Vals [.ref x.emp] ds ∧ Binds K x.d_Form___init__ ["self", "constant", "terms"] ds
  bd_Form___init___2 : ∃ ds, Vals [.int 0, .ref x.emp] ds ∧ Binds K x.d_Form___init__ ["self", "constant", "terms"] ds
  bd_Ratio___init___1 : ∃ ds, Vals [.int 1] ds ∧ Binds K x.d_Ratio___init__ ["self", "top", "bottom"] ds
theorem Txt.kp__law_bag {K : PySem.W.Frag} {mg : Str → Option Value} {A : CT} {x : Fx} (T : Txt K mg A x) : PySem.W.keepIn K (.ref x.f__law_bag) = true := T.F__law_bag.kp
theorem Txt.kp_are_small {K : PySem.W.Frag} {mg : Str → Option Value} {A : CT} {x : Fx} (T : Txt K mg A x) : PySem.W.keepIn K (.ref x.f_are_small) = true := T.F_are_small.kp
theorem Txt.kp_is_integer {K : PySem.W.Frag} {mg : Str → Option Value} {A : CT} {x : Fx} (T : Txt K mg A x) : PySem.W.keepIn K (.ref x.f_is_integer) = true := T.F_is_integer.kp
theorem Txt.kp_are_terms {K : PySem.W.Frag} {mg : Str → Option Value} {A : CT} {x : Fx} (T : Txt K mg A x) : PySem.W.keepIn K (.ref x.f_are_terms) = true := T.F_are_terms.kp
theorem Txt.kp_Form___init__ {K : PySem.W.Frag} {mg : Str → Option Value} {A : CT} {x : Fx} (T : Txt K mg A x) : PySem.W.keepIn K (.ref x.f_Form___init__) = true := T.F_Form___init__.kp
theorem Txt.kp_form_of {K : PySem.W.Frag} {mg : Str → Option Value} {A : CT} {x : Fx} (T : Txt K mg A x) : PySem.W.keepIn K (.ref x.f_form_of) = true := T.F_form_of.kp
theorem Txt.kp_Form___add__ {K : PySem.W.Frag} {mg : Str → Option Value} {A : CT} {x : Fx} (T : Txt K mg A x) : PySem.W.keepIn K (.ref x.f_Form___add__) = true := T.F_Form___add__.kp
theorem Txt.kp_Form___eq__ {K : PySem.W.Frag} {mg : Str → Option Value} {A : CT} {x : Fx} (T : Txt K mg A x) : PySem.W.keepIn K (.ref x.f_Form___eq__) = true := T.F_Form___eq__.kp
theorem Txt.kp_Form___mul__ {K : PySem.W.Frag} {mg : Str → Option Value} {A : CT} {x : Fx} (T : Txt K mg A x) : PySem.W.keepIn K (.ref x.f_Form___mul__) = true := T.F_Form___mul__.kp
theorem Txt.kp_Form___neg__ {K : PySem.W.Frag} {mg : Str → Option Value} {A : CT} {x : Fx} (T : Txt K mg A x) : PySem.W.keepIn K (.ref x.f_Form___neg__) = true := T.F_Form___neg__.kp
theorem Txt.kp_Form___sub__ {K : PySem.W.Frag} {mg : Str → Option Value} {A : CT} {x : Fx} (T : Txt K mg A x) : PySem.W.keepIn K (.ref x.f_Form___sub__) = true := T.F_Form___sub__.kp
theorem Txt.kp_shared_factor {K : PySem.W.Frag} {mg : Str → Option Value} {A : CT} {x : Fx} (T : Txt K mg A x) : PySem.W.keepIn K (.ref x.f_shared_factor) = true := T.F_shared_factor.kp
theorem Txt.kp_Ratio___init__ {K : PySem.W.Frag} {mg : Str → Option Value} {A : CT} {x : Fx} (T : Txt K mg A x) : PySem.W.keepIn K (.ref x.f_Ratio___init__) = true := T.F_Ratio___init__.kp
theorem Txt.kp_as_ratio {K : PySem.W.Frag} {mg : Str → Option Value} {A : CT} {x : Fx} (T : Txt K mg A x) : PySem.W.keepIn K (.ref x.f_as_ratio) = true := T.F_as_ratio.kp
theorem Txt.kp_compared {K : PySem.W.Frag} {mg : Str → Option Value} {A : CT} {x : Fx} (T : Txt K mg A x) : PySem.W.keepIn K (.ref x.f_compared) = true := T.F_compared.kp
theorem Txt.kp_is_above {K : PySem.W.Frag} {mg : Str → Option Value} {A : CT} {x : Fx} (T : Txt K mg A x) : PySem.W.keepIn K (.ref x.f_is_above) = true := T.F_is_above.kp
theorem Txt.kp_is_fraction {K : PySem.W.Frag} {mg : Str → Option Value} {A : CT} {x : Fx} (T : Txt K mg A x) : PySem.W.keepIn K (.ref x.f_is_fraction) = true := T.F_is_fraction.kp
theorem Txt.kp_are_lengths {K : PySem.W.Frag} {mg : Str → Option Value} {A : CT} {x : Fx} (T : Txt K mg A x) : PySem.W.keepIn K (.ref x.f_are_lengths) = true := T.F_are_lengths.kp
theorem Txt.kp_Ratio___add__ {K : PySem.W.Frag} {mg : Str → Option Value} {A : CT} {x : Fx} (T : Txt K mg A x) : PySem.W.keepIn K (.ref x.f_Ratio___add__) = true := T.F_Ratio___add__.kp
theorem Txt.kp_Ratio___mul__ {K : PySem.W.Frag} {mg : Str → Option Value} {A : CT} {x : Fx} (T : Txt K mg A x) : PySem.W.keepIn K (.ref x.f_Ratio___mul__) = true := T.F_Ratio___mul__.kp
theorem Txt.kp_Ratio___rmul__ {K : PySem.W.Frag} {mg : Str → Option Value} {A : CT} {x : Fx} (T : Txt K mg A x) : PySem.W.keepIn K (.ref x.f_Ratio___rmul__) = true := T.F_Ratio___rmul__.kp
theorem Txt.kp_worth {K : PySem.W.Frag} {mg : Str → Option Value} {A : CT} {x : Fx} (T : Txt K mg A x) : PySem.W.keepIn K (.ref x.f_worth) = true := T.F_worth.kp
theorem Txt.kp_Form_at {K : PySem.W.Frag} {mg : Str → Option Value} {A : CT} {x : Fx} (T : Txt K mg A x) : PySem.W.keepIn K (.ref x.f_Form_at) = true := T.F_Form_at.kp
theorem Txt.kp_Ratio___eq__ {K : PySem.W.Frag} {mg : Str → Option Value} {A : CT} {x : Fx} (T : Txt K mg A x) : PySem.W.keepIn K (.ref x.f_Ratio___eq__) = true := T.F_Ratio___eq__.kp
theorem Txt.kp__law_added {K : PySem.W.Frag} {mg : Str → Option Value} {A : CT} {x : Fx} (T : Txt K mg A x) : PySem.W.keepIn K (.ref x.f__law_added) = true := T.F__law_added.kp
theorem Txt.kp__law_draw {K : PySem.W.Frag} {mg : Str → Option Value} {A : CT} {x : Fx} (T : Txt K mg A x) : PySem.W.keepIn K (.ref x.f__law_draw) = true := T.F__law_draw.kp
theorem Txt.kp__law_one {K : PySem.W.Frag} {mg : Str → Option Value} {A : CT} {x : Fx} (T : Txt K mg A x) : PySem.W.keepIn K (.ref x.f__law_one) = true := T.F__law_one.kp
theorem Txt.kp__law_drawn {K : PySem.W.Frag} {mg : Str → Option Value} {A : CT} {x : Fx} (T : Txt K mg A x) : PySem.W.keepIn K (.ref x.f__law_drawn) = true := T.F__law_drawn.kp
theorem Txt.kp__law_pairs {K : PySem.W.Frag} {mg : Str → Option Value} {A : CT} {x : Fx} (T : Txt K mg A x) : PySem.W.keepIn K (.ref x.f__law_pairs) = true := T.F__law_pairs.kp
theorem Txt.kp__law_due {K : PySem.W.Frag} {mg : Str → Option Value} {A : CT} {x : Fx} (T : Txt K mg A x) : PySem.W.keepIn K (.ref x.f__law_due) = true := T.F__law_due.kp
theorem Txt.kp__law_shown {K : PySem.W.Frag} {mg : Str → Option Value} {A : CT} {x : Fx} (T : Txt K mg A x) : PySem.W.keepIn K (.ref x.f__law_shown) = true := T.F__law_shown.kp
theorem Txt.kp__law_right {K : PySem.W.Frag} {mg : Str → Option Value} {A : CT} {x : Fx} (T : Txt K mg A x) : PySem.W.keepIn K (.ref x.f__law_right) = true := T.F__law_right.kp
theorem Txt.kp_law {K : PySem.W.Frag} {mg : Str → Option Value} {A : CT} {x : Fx} (T : Txt K mg A x) : PySem.W.keepIn K (.ref x.f_law) = true := T.F_law.kp
section
variable {P : Program} {w : World} {K : PySem.W.Frag} {mg : Str → Option Value} {base : Heap} {A : CT} {x : Fx}
theorem ok__law_bag (T : Txt K mg A x) : FnOk P w K mg base (L2.CX P w) 1 x.f__law_bag x.d__law_bag ["_law_cells", "_law_k"] (spF K A F__law_bag 2) := by
  refine T.F__law_bag.okX sc__law_bag (fun vs H Q E h => h.1) (fun cdv Ar outer s H vs Q E hr h => ?_)
  have pO : PassesOwn (model P w) (cxOf (L2.CX P w) P w K mg base nm__law_bag "_law_bag" (defScope st__law_bag) x.f__law_bag cdv Ar outer s H E).A (cxOf (L2.CX P w) P w K mg base nm__law_bag "_law_bag" (defScope st__law_bag) x.f__law_bag cdv Ar outer s H E).env (cxOf (L2.CX P w) P w K mg base nm__law_bag "_law_bag" (defScope st__law_bag) x.f__law_bag cdv Ar outer s H E).xe := passes_of rfl
  exact ⟨liftS K A none mm__law_bag, (by unfold mm__law_bag mt__law_bag_3 mt__law_bag_2 mt__law_bag_1; exact ((pdss_cons (pds_par (i := 2) (k := 3) rfl sc__law_bag.nd rfl rfl (by decide) rfl rfl (pd_if (pdt_cmp o_lt (pd_var (pv 1)) (PE.imp (pe_callB (o_lenb o_noN) (by rfl) T.n_len (by decide +kernel) (pa_cons (pv 0) pa_nil)) fun _ _ _ => bor1_use (nf_len nf_no1)) (nomark _)) (pd_callTy o_int (by rfl) T.n_int (by decide +kernel) (pda_cons (pd_borix hr.units1 (pv 0) (pd_var (pv 1)) (fun _ _ => rfl)) pda_nil)) pd_int) (pd_bin (o_mul o_no) pd_int (pd_bin (o_add o_no) (pd_var (pv 1)) pd_int)) (fun _ => by decide) (by rfl))
  (pdss_cons (pds_for pO rfl (pdi_val (pd_slice (pd_var (pv 0)) pdo_none (pdo_some pd_int))) (pdg_name (pg_name (i := 4) sc__law_bag.nd rfl (by first | exact Or.inl rfl | exact Or.inr rfl))) (pdss_one (pds_set (i := 3) sc__law_bag.nd rfl (by first | exact Or.inl rfl | exact Or.inr rfl) (pd_bin o_mod (pd_callTy o_int (by rfl) T.n_int (by decide +kernel) (pda_cons (pd_bin (o_add o_no) (pd_bin (o_add o_no) (pd_bin (o_mul o_no) (pd_var (pv 3)) pd_int) (pd_bin o_mod (pd_callTy o_int (by rfl) T.n_int (by decide +kernel) (pda_cons (pd_var (pv 4)) pda_nil)) pd_int)) (pd_bin (o_mul o_no) pd_int (pd_var (pv 1)))) pda_nil)) pd_int) (fun _ => by decide))))
  (pdss_cons (pds_set (i := 5) sc__law_bag.nd rfl (by first | exact Or.inl rfl | exact Or.inr rfl) (pd_if (pdt_w (pdw_or (pdt_cmp o_lt (pd_var (pv 2)) pd_int (nomark _)) (pdw_or1 (pdt_cmp o_ge (pd_var (pv 2)) (pd_bin o_pow pd_int pd_int) (nomark _))))) (pd_callB o_abs (by rfl) T.n_abs (by decide +kernel) (pda_cons (pd_var (pv 2)) pda_nil)) pd_int) (fun _ => by decide))
  (pdss_one (pds_ret (pd_lst (pda_cons (pd_var (pv 5)) (pda_cons (pd_bin o_mod (pd_callTy o_int (by rfl) T.n_int (by decide +kernel) (pda_cons (pd_bin (o_add o_no) (pd_var (pv 3)) (pd_bin (o_mul o_no) pd_int (pd_bin o_mod (pd_callTy o_int (by rfl) T.n_int (by decide +kernel) (pda_cons (pd_var (pv 2)) pda_nil)) pd_int))) pda_nil)) pd_int) (pda_cons pd_int pda_nil))))))))))), enter_F (p := 2) rfl (by decide) (by rw [q__law_bag] at h; exact h)⟩
theorem ok_are_small (T : Txt K mg A x) : FnOk P w K mg base (L2.CX P w) 1 x.f_are_small x.d_are_small ["value", "least", "most"] (spF K A F_are_small 3) := by
  refine T.F_are_small.okX sc_are_small (fun vs H Q E h => h.1) (fun cdv Ar outer s H vs Q E hr h => ?_)
  exact ⟨liftS K A none mm_are_small, (by unfold mm_are_small; exact ((pdss_cons (pds_if (pdt_w (pdw_or (pdt_not (pdt_val (pd_callB (o_isi T.kd) (by rfl) T.n_isinstance (by decide +kernel) (pda_cons (pd_var (pv 0)) (pda_cons (pd_c (pe_bltn (v := .ty "str") (by rfl) T.n_str (by decide +kernel) rfl) fun _ => .ty .str) pda_nil))))) (pdw_or1 (pdt_not (pdt_chain o_le o_le (pd_var (pv 1)) (PE.imp (pe_callB (o_lenb o_noN) (by rfl) T.n_len (by decide +kernel) (pa_cons (pv 0) pa_nil)) fun _ _ _ => bor1_use (nf_len nf_no1)) (pd_var (pv 2)) nf_le))))) (pdss_one (pds_ret pd_bl)) pdss_nil)
  (pdss_one (pds_ret (pd_callB (o_all rfl) (by rfl) T.n_all (by decide +kernel) (pda_cons (pd_lc (by decide) (pe_lc (own := [("sign", 3)]) rfl sc_are_small.nd (pdi_val (pd_var (pv 0))) (blkOk_by (own := [("sign", 3)]) (N := nm_are_small) (sc := defScope st_are_small) (by decide +kernel)) (fun _ _ _ _ _ => (pdg_name (pg_name (i := 3) sc_are_small.nd rfl (by first | exact Or.inl rfl | exact Or.inr rfl)))) (fun _ _ _ _ _ => pdts_nil) (fun _ _ _ _ _ => (pd_chain o_le o_le (pd_str (by decide +kernel)) (pd_var (pv 3)) (pd_str (by decide +kernel)) nf_le)))) pda_nil))))))), enter_F (p := 3) rfl (by decide) (by rw [q_are_small] at h; exact h)⟩
theorem ok_is_integer (T : Txt K mg A x) : FnOk P w K mg base (L2.CX P w) 1 x.f_is_integer x.d_is_integer ["value"] (spF K A F_is_integer 1) := by
  refine T.F_is_integer.okX sc_is_integer (fun vs H Q E h => h.1) (fun cdv Ar outer s H vs Q E hr h => ?_)
  exact ⟨liftS K A none mm_is_integer, (by unfold mm_is_integer; exact ((pdss_one (pds_ret (pd_and (pd_callB (o_isi T.kd) (by rfl) T.n_isinstance (by decide +kernel) (pda_cons (pd_var (pv 0)) (pda_cons (pd_c (pe_bltn (v := .ty "int") (by rfl) T.n_int (by decide +kernel) rfl) fun _ => .ty .int) pda_nil))) (pd_one (pd_not (pd_callB (o_isi T.kd) (by rfl) T.n_isinstance (by decide +kernel) (pda_cons (pd_var (pv 0)) (pda_cons (pd_c (pe_bltn (v := .ty "bool") (by rfl) T.n_bool (by decide +kernel) rfl) fun _ => .ty .bool) pda_nil)))))))))), enter_F (p := 1) rfl (by decide) (by rw [q_is_integer] at h; exact h)⟩
theorem ok_are_terms (T : Txt K mg A x) : FnOk P w K mg base (L2.CX P w) 3 x.f_are_terms x.d_are_terms ["value"] (spF K A F_are_terms 1) := by
  refine T.F_are_terms.okX sc_are_terms (fun vs H Q E h => h.1) (fun cdv Ar outer s H vs Q E hr h => ?_)
  have pO : PassesOwn (model P w) (cxOf (L2.CX P w) P w K mg base nm_are_terms "are_terms" (defScope st_are_terms) x.f_are_terms cdv Ar outer s H E).A (cxOf (L2.CX P w) P w K mg base nm_are_terms "are_terms" (defScope st_are_terms) x.f_are_terms cdv Ar outer s H E).env (cxOf (L2.CX P w) P w K mg base nm_are_terms "are_terms" (defScope st_are_terms) x.f_are_terms cdv Ar outer s H E).xe := passes_of rfl
  exact ⟨liftS K A none mm_are_terms, (by unfold mm_are_terms mt_are_terms_4 mt_are_terms_3 mt_are_terms_2 mt_are_terms_1; exact ((pdss_cons (pds_if (pdt_not (pdt_val (pd_callB (o_isi T.kd) (by rfl) T.n_isinstance (by decide +kernel) (pda_cons (pd_var (pv 0)) (pda_cons (pd_c (pe_bltn (v := .ty "tuple") (by rfl) T.n_tuple (by decide +kernel) rfl) fun _ => .ty .tuple) pda_nil))))) (pdss_one (pds_ret pd_bl)) pdss_nil)
  (pdss_cons (pds_set (i := 1) sc_are_terms.nd rfl (by first | exact Or.inl rfl | exact Or.inr rfl) (pd_str (by decide +kernel)) (fun _ => by decide))
  (pdss_cons (pds_for pO rfl (pdi_val (pd_var (pv 0))) (pdg_name (pg_name (i := 2) sc_are_terms.nd rfl (by first | exact Or.inl rfl | exact Or.inr rfl))) (pdss_cons (pds_if (pdt_w (pdw_or (pdt_not (pdt_val (pd_callB (o_isi T.kd) (by rfl) T.n_isinstance (by decide +kernel) (pda_cons (pd_var (pv 2)) (pda_cons (pd_c (pe_bltn (v := .ty "tuple") (by rfl) T.n_tuple (by decide +kernel) rfl) fun _ => .ty .tuple) pda_nil))))) (pdw_or (pdt_cmp (o_ne hr.units o_noNe) (PE.imp (pe_callB (o_lenb o_noN) (by rfl) T.n_len (by decide +kernel) (pa_cons (pv 2) pa_nil)) fun _ _ _ => bor1_use (nf_len nf_no1)) pd_int (nomark _)) (pdw_or (pdt_not (pdt_val (pd_call hl_are_small (ok_are_small T) (hr.mono (by decide)) rfl T.g_are_small T.kp_are_small T.b_are_small passL (pda_cons (pd_borix hr.units1 (pv 2) pd_int (fun _ _ => rfl)) (pda_cons pd_int (pda_cons pd_int pda_nil)))))) (pdw_or1 (pdt_cmp o_le (pd_borix hr.units1 (pv 2) pd_int (fun _ _ => rfl)) (pd_var (pv 1)) (nomark _))))))) (pdss_one (pds_ret pd_bl)) pdss_nil)
  (pdss_cons (pds_if (pdt_w (pdw_or (pdt_not (pdt_val (pd_call hl_is_integer (ok_is_integer T) (hr.mono (by decide)) rfl T.g_is_integer T.kp_is_integer T.b_is_integer passL (pda_cons (pd_borix hr.units1 (pv 2) pd_int (fun _ _ => rfl)) pda_nil)))) (pdw_or1 (pdt_cmp (o_eq hr.units o_no) (pd_borix hr.units1 (pv 2) pd_int (fun _ _ => rfl)) pd_int (nomark _))))) (pdss_one (pds_ret pd_bl)) pdss_nil)
  (pdss_one (pds_set (i := 1) sc_are_terms.nd rfl (by first | exact Or.inl rfl | exact Or.inr rfl) (pd_borix hr.units1 (pv 2) pd_int (fun _ _ => rfl)) (fun _ => by decide))))))
  (pdss_one (pds_ret pd_bl))))))), enter_F (p := 1) rfl (by decide) (by rw [q_are_terms] at h; exact h)⟩
theorem ok_Form___init__ (T : Txt K mg A x) : FnOk P w K mg base (L2.CX P w) 5 x.f_Form___init__ x.d_Form___init__ ["self", "constant", "terms"] (spR K A F_Form___init__ 3 0) := by
  refine FunD.ok (CX := L2.CX P w) T.F_Form___init__ sc_Form___init__ (fun vs H Q E h => h.1) (fun cdv Ar outer s H vs Q E hr h => ?_)
  exact ⟨liftS K A (some 0) mm_Form___init__, (by unfold mm_Form___init__ mt_Form___init___3 mt_Form___init___2 mt_Form___init___1; exact ((pdss_cons (pds_if (pdt_not (pdt_val (pd_call hl_is_integer (ok_is_integer T) (hr.mono (by decide)) rfl T.g_is_integer T.kp_is_integer T.b_is_integer passL (pda_cons (pd_var (pv 1)) pda_nil)))) (pdss_one pds_no) pdss_nil)
  (pdss_cons (pds_if (pdt_not (pdt_val (pd_call hl_are_terms (ok_are_terms T) (hr.mono (by decide)) rfl T.g_are_terms T.kp_are_terms T.b_are_terms passL (pda_cons (pd_var (pv 2)) pda_nil)))) (pdss_one pds_no) pdss_nil)
  (pdss_cons (pds_fld T.kd T.fl_Form_constant T.nl_Form (pv 0) (pd_var (pv 1)))
  (pdss_cons (pds_fld T.kd T.fl_Form_terms T.nl_Form (pv 0) (pd_var (pv 2)))
  (pdss_one (pds_fld T.kd T.fl_Form_names T.nl_Form (pv 0) (pd_join (pd_str (by decide +kernel)) (pd_lc (by decide) (pe_lc (own := [("pair", 3)]) rfl sc_Form___init__.nd (pdi_val (pd_var (pv 2))) (blkOk_by (own := [("pair", 3)]) (N := nm_Form___init__) (sc := defScope st_Form___init__) (by decide +kernel)) (fun _ _ _ _ _ => (pdg_name (pg_name (i := 3) sc_Form___init__.nd rfl (by first | exact Or.inl rfl | exact Or.inr rfl)))) (fun _ _ _ _ _ => pdts_nil) (fun _ _ _ _ _ => (pd_borix hr.units1 (pv 3) pd_int (fun _ _ => rfl))))) (fun h a b => pe_m1 PySem.F.slot_str_join PySem.F.type_str_join h a b)))))))))), enter_R (p := 3) rfl (by decide) (by rw [q_Form___init__] at h; exact h)⟩
theorem ok_form_of (T : Txt K mg A x) : FnOk P w K mg base (L2.CX P w) 8 x.f_form_of x.d_form_of ["constant", "numbers"] (spF K A F_form_of 2) := by
  refine T.F_form_of.okX sc_form_of (fun vs H Q E h => h.1) (fun cdv Ar outer s H vs Q E hr h => ?_)
  exact ⟨liftS K A none mm_form_of, (by unfold mm_form_of; exact ((pdss_cons (pds_set (i := 2) sc_form_of.nd rfl (by first | exact Or.inl rfl | exact Or.inr rfl) (pd_callB o_sorted (by rfl) T.n_sorted (by decide +kernel) (pda_cons (pd_lcK (by decide) (pe_lc (own := [("name", 3)]) rfl sc_form_of.nd (pi_keys (pv 1)) (blkOk_by (own := [("name", 3)]) (N := nm_form_of) (sc := defScope st_form_of) (by decide +kernel)) (fun _ _ _ _ _ => (pdg_name (pg_name (i := 3) sc_form_of.nd rfl (by first | exact Or.inl rfl | exact Or.inr rfl)))) (fun _ _ _ _ _ => pdts_nil) (fun _ _ _ _ _ => (pd_callTy (o_str o_noS) (by rfl) T.n_str (by decide +kernel) (pda_cons (pd_var (pv 3)) pda_nil))))) pda_nil)) (fun _ => by decide))
  (pdss_one (pds_ret (pd_make T.in_Form hi_Form___init__ (fun _ => .nil) T.mk_Form (ok_Form___init__ T) (hr.mono (by decide)) rfl T.g_Form T.b_Form___init__ .nil passL (pda_cons (pd_var (pv 0)) (pda_cons (pd_callTy o_tuple (by rfl) T.n_tuple (by decide +kernel) (pda_cons (pd_lc (by decide) (pe_lc (own := [("name", 3)]) rfl sc_form_of.nd (pdi_val (pd_var (pv 2))) (blkOk_by (own := [("name", 3)]) (N := nm_form_of) (sc := defScope st_form_of) (by decide +kernel)) (fun _ _ _ _ _ => (pdg_name (pg_name (i := 3) sc_form_of.nd rfl (by first | exact Or.inl rfl | exact Or.inr rfl)))) (fun _ _ _ _ _ => (pdts_one (pdt_cmp (o_ne hr.units o_noNe) (pd_borix hr.units1 (pv 1) (pd_var (pv 3)) (fun _ _ => rfl)) pd_int (nomark _)))) (fun _ _ _ _ _ => (pd_tup (pda_cons (pd_var (pv 3)) (pda_cons (pd_borix hr.units1 (pv 1) (pd_var (pv 3)) (fun _ _ => rfl)) pda_nil)))))) pda_nil)) pda_nil)))))))), enter_F (p := 2) rfl (by decide) (by rw [q_form_of] at h; exact h)⟩
theorem ok_Form___add__ (T : Txt K mg A x) : FnOk P w K mg base (L2.CX P w) 10 x.f_Form___add__ x.d_Form___add__ ["self", "other"] (spF K A F_Form___add__ 2) := by
  refine T.F_Form___add__.okX sc_Form___add__ (fun vs H Q E h => h.1) (fun cdv Ar outer s H vs Q E hr h => ?_)
  have pO : PassesOwn (model P w) (cxOf (L2.CX P w) P w K mg base nm_Form___add__ "Form.__add__" (defScope st_Form___add__) x.f_Form___add__ cdv Ar outer s H E).A (cxOf (L2.CX P w) P w K mg base nm_Form___add__ "Form.__add__" (defScope st_Form___add__) x.f_Form___add__ cdv Ar outer s H E).env (cxOf (L2.CX P w) P w K mg base nm_Form___add__ "Form.__add__" (defScope st_Form___add__) x.f_Form___add__ cdv Ar outer s H E).xe := passes_of rfl
  exact ⟨liftS K A none mm_Form___add__, (by unfold mm_Form___add__ mt_Form___add___4 mt_Form___add___3 mt_Form___add___2 mt_Form___add___1; exact ((pdss_cons (pds_if (pdt_val (pd_call hl_is_integer (ok_is_integer T) (hr.mono (by decide)) rfl T.g_is_integer T.kp_is_integer T.b_is_integer passL (pda_cons (pd_var (pv 1)) pda_nil))) (pdss_one (pds_ret (pd_make T.in_Form hi_Form___init__ (fun _ => .nil) T.mk_Form (ok_Form___init__ T) (hr.mono (by decide)) rfl T.g_Form T.b_Form___init__ .nil passL (pda_cons (pd_bin (o_add o_no) (pd_fld T.kd T.fl_Form_constant (pd_var (pv 0))) (pd_var (pv 1))) (pda_cons (pd_fld T.kd T.fl_Form_terms (pd_var (pv 0))) pda_nil))))) pdss_nil)
  (pdss_cons (pds_if (pdt_not (pdt_val (pd_callB (o_isi T.kd) (by rfl) T.n_isinstance (by decide +kernel) (pda_cons (pd_var (pv 1)) (pda_cons (pd_c (pe_glob (v := .ref (A.ad 1)) rfl T.g_Form rfl) fun _ => .cls 1 T.in_Form) pda_nil))))) (pdss_one pds_no) pdss_nil)
  (pdss_cons (pds_set (i := 2) sc_Form___add__.nd rfl (by first | exact Or.inl rfl | exact Or.inr rfl) (pd_callTy (o_dict rfl) (by rfl) T.n_dict (by decide +kernel) (pda_cons (pd_fld T.kd T.fl_Form_terms (pd_var (pv 0))) pda_nil)) (fun _ => by decide))
  (pdss_cons (pds_for pO rfl (pdi_val (pd_fld T.kd T.fl_Form_terms (pd_var (pv 1)))) (pdg_tup rfl (pdgs_cons (pdg_name (pg_name (i := 3) sc_Form___add__.nd rfl (by first | exact Or.inl rfl | exact Or.inr rfl))) (pdgs_cons (pdg_name (pg_name (i := 4) sc_Form___add__.nd rfl (by first | exact Or.inl rfl | exact Or.inr rfl))) pdgs_nil))) (pdss_one (pds_put hr.units1 (pv 2) (pd_var (pv 3)) (pd_bin (o_add o_no) (pd_getS hr.units1 (pv 2) (pd_var (pv 3)) pd_int ⟨rfl, rfl, rfl, rfl⟩) (pd_var (pv 4))))))
  (pdss_one (pds_ret (pd_call hl_form_of (ok_form_of T) (hr.mono (by decide)) rfl T.g_form_of T.kp_form_of T.b_form_of passL (pda_cons (pd_bin (o_add o_no) (pd_fld T.kd T.fl_Form_constant (pd_var (pv 0))) (pd_fld T.kd T.fl_Form_constant (pd_var (pv 1)))) (pda_cons (pd_var (pv 2)) pda_nil))))))))))), enter_F (p := 2) rfl (by decide) (by rw [q_Form___add__] at h; exact h)⟩
theorem ok_Form___eq__ (T : Txt K mg A x) : FnOk P w K mg base (L2.CX P w) 1 x.f_Form___eq__ x.d_Form___eq__ ["self", "other"] (spF K A F_Form___eq__ 2) := by
  refine T.F_Form___eq__.okX sc_Form___eq__ (fun vs H Q E h => h.1) (fun cdv Ar outer s H vs Q E hr h => ?_)
  exact ⟨liftS K A none mm_Form___eq__, (by unfold mm_Form___eq__; exact ((pdss_one (pds_ret (pd_and (pd_callB (o_isi T.kd) (by rfl) T.n_isinstance (by decide +kernel) (pda_cons (pd_var (pv 1)) (pda_cons (pd_c (pe_glob (v := .ref (A.ad 1)) rfl T.g_Form rfl) fun _ => .cls 1 T.in_Form) pda_nil))) (pd_and (pd_cmp (o_eq hr.units o_no) (pd_fld T.kd T.fl_Form_constant (pd_var (pv 0))) (pd_fld T.kd T.fl_Form_constant (pd_var (pv 1))) (nomark _)) (pd_one (pd_cmp (o_eq hr.units o_no) (pd_fld T.kd T.fl_Form_terms (pd_var (pv 0))) (pd_fld T.kd T.fl_Form_terms (pd_var (pv 1))) (nomark _))))))))), enter_F (p := 2) rfl (by decide) (by rw [q_Form___eq__] at h; exact h)⟩
theorem ok_Form___mul__ (T : Txt K mg A x) : FnOk P w K mg base (L2.CX P w) 10 x.f_Form___mul__ x.d_Form___mul__ ["self", "other"] (spF K A F_Form___mul__ 2) := by
  refine T.F_Form___mul__.okX sc_Form___mul__ (fun vs H Q E h => h.1) (fun cdv Ar outer s H vs Q E hr h => ?_)
  exact ⟨liftS K A none mm_Form___mul__, (by unfold mm_Form___mul__; exact ((pdss_cons (pds_if (pdt_not (pdt_val (pd_call hl_is_integer (ok_is_integer T) (hr.mono (by decide)) rfl T.g_is_integer T.kp_is_integer T.b_is_integer passL (pda_cons (pd_var (pv 1)) pda_nil)))) (pdss_one pds_no) pdss_nil)
  (pdss_one (pds_ret (pd_call hl_form_of (ok_form_of T) (hr.mono (by decide)) rfl T.g_form_of T.kp_form_of T.b_form_of passL (pda_cons (pd_bin (o_mul o_no) (pd_fld T.kd T.fl_Form_constant (pd_var (pv 0))) (pd_var (pv 1))) (pda_cons (pd_dc (by decide) (pe_dc (own := [("name", 2), ("times", 3)]) rfl sc_Form___mul__.nd (pdi_val (pd_fld T.kd T.fl_Form_terms (pd_var (pv 0)))) (blkOk_by (own := [("name", 2), ("times", 3)]) (N := nm_Form___mul__) (sc := defScope st_Form___mul__) (by decide +kernel)) (fun _ _ _ _ _ => (pdg_tup rfl (pdgs_cons (pdg_name (pg_name (i := 2) sc_Form___mul__.nd rfl (by first | exact Or.inl rfl | exact Or.inr rfl))) (pdgs_cons (pdg_name (pg_name (i := 3) sc_Form___mul__.nd rfl (by first | exact Or.inl rfl | exact Or.inr rfl))) pdgs_nil)))) (fun _ _ _ _ _ => pdts_nil) (fun _ _ _ _ _ => (pd_var (pv 2))) (fun _ _ _ _ _ => (pd_bin (o_mul o_no) (pd_var (pv 3)) (pd_var (pv 1)))))) pda_nil)))))))), enter_F (p := 2) rfl (by decide) (by rw [q_Form___mul__] at h; exact h)⟩
theorem ok_Form___neg__ (T : Txt K mg A x) : FnOk P w K mg base (L2.CX P w) 12 x.f_Form___neg__ x.d_Form___neg__ ["self"] (spF K A F_Form___neg__ 1) := by
  refine T.F_Form___neg__.okX sc_Form___neg__ (fun vs H Q E h => h.1) (fun cdv Ar outer s H vs Q E hr h => ?_)
  exact ⟨liftS K A none mm_Form___neg__, (by unfold mm_Form___neg__; exact ((pdss_one (pds_ret (pd_bin (o_mul (o_sel (o_ci T.sf_Form T.o_Form_mul (ok_Form___mul__ T) (hr.mono (by decide)) T.b_Form___mul__ passL T.nr_Form_mul (.inl rfl) T.i1_Form_mul T.i2_Form_mul T.int_Form) o_no)) (pd_var (pv 0)) (pd_un (o_neg o_no1) pd_int)))))), enter_F (p := 1) rfl (by decide) (by rw [q_Form___neg__] at h; exact h)⟩
theorem ok_Form___sub__ (T : Txt K mg A x) : FnOk P w K mg base (L2.CX P w) 14 x.f_Form___sub__ x.d_Form___sub__ ["self", "other"] (spF K A F_Form___sub__ 2) := by
  refine T.F_Form___sub__.okX sc_Form___sub__ (fun vs H Q E h => h.1) (fun cdv Ar outer s H vs Q E hr h => ?_)
  exact ⟨liftS K A none mm_Form___sub__, (by unfold mm_Form___sub__ mt_Form___sub___1; exact ((pdss_cons (pds_if (pdt_val (pd_call hl_is_integer (ok_is_integer T) (hr.mono (by decide)) rfl T.g_is_integer T.kp_is_integer T.b_is_integer passL (pda_cons (pd_var (pv 1)) pda_nil))) (pdss_one (pds_ret (pd_make T.in_Form hi_Form___init__ (fun _ => .nil) T.mk_Form (ok_Form___init__ T) (hr.mono (by decide)) rfl T.g_Form T.b_Form___init__ .nil passL (pda_cons (pd_bin (o_sub o_no) (pd_fld T.kd T.fl_Form_constant (pd_var (pv 0))) (pd_var (pv 1))) (pda_cons (pd_fld T.kd T.fl_Form_terms (pd_var (pv 0))) pda_nil))))) pdss_nil)
  (pdss_cons (pds_if (pdt_not (pdt_val (pd_callB (o_isi T.kd) (by rfl) T.n_isinstance (by decide +kernel) (pda_cons (pd_var (pv 1)) (pda_cons (pd_c (pe_glob (v := .ref (A.ad 1)) rfl T.g_Form rfl) fun _ => .cls 1 T.in_Form) pda_nil))))) (pdss_one pds_no) pdss_nil)
  (pdss_one (pds_ret (pd_bin (o_add (o_sel (o_cc T.sf_Form T.o_Form_add (ok_Form___add__ T) (hr.mono (by decide)) T.b_Form___add__ passL) o_no)) (pd_var (pv 0)) (pd_un (o_neg (o_sel1 (o_negC T.o_Form_neg (ok_Form___neg__ T) (hr.mono (by decide)) T.b_Form___neg__ passL) o_no1)) (pd_var (pv 1)))))))))), enter_F (p := 2) rfl (by decide) (by rw [q_Form___sub__] at h; exact h)⟩
theorem ok_shared_factor (T : Txt K mg A x) : FnOk P w K mg base (L2.CX P w) 1 x.f_shared_factor x.d_shared_factor ["one", "two"] (spF K A F_shared_factor 2) := by
  refine T.F_shared_factor.okX sc_shared_factor (fun vs H Q E h => h.1) (fun cdv Ar outer s H vs Q E hr h => ?_)
  have pO : PassesOwn (model P w) (cxOf (L2.CX P w) P w K mg base nm_shared_factor "shared_factor" (defScope st_shared_factor) x.f_shared_factor cdv Ar outer s H E).A (cxOf (L2.CX P w) P w K mg base nm_shared_factor "shared_factor" (defScope st_shared_factor) x.f_shared_factor cdv Ar outer s H E).env (cxOf (L2.CX P w) P w K mg base nm_shared_factor "shared_factor" (defScope st_shared_factor) x.f_shared_factor cdv Ar outer s H E).xe := passes_of rfl
  exact ⟨liftS K A none mm_shared_factor, (by unfold mm_shared_factor mt_shared_factor_2 mt_shared_factor_1; exact ((pdss_cons (pds_par (i := 2) (k := 3) rfl sc_shared_factor.nd rfl rfl (by decide) rfl rfl (pd_callB o_abs (by rfl) T.n_abs (by decide +kernel) (pda_cons (pd_var (pv 0)) pda_nil)) (pd_callB o_abs (by rfl) T.n_abs (by decide +kernel) (pda_cons (pd_var (pv 1)) pda_nil)) (fun _ => by decide) (by rfl))
  (pdss_cons (pds_while pO (pdt_cmp o_gt (pd_var (pv 3)) pd_int (nomark _)) (pdss_one (pds_par (i := 2) (k := 3) rfl sc_shared_factor.nd rfl rfl (by decide) rfl rfl (pd_var (pv 3)) (pd_bin o_mod (pd_var (pv 2)) (pd_var (pv 3))) (fun _ => by decide) (by rfl))))
  (pdss_one (pds_retV (pv 2) (by decide))))))), enter_F (p := 2) rfl (by decide) (by rw [q_shared_factor] at h; exact h)⟩
theorem ok_Ratio___init__ (T : Txt K mg A x) : FnOk P w K mg base (L2.CX P w) 3 x.f_Ratio___init__ x.d_Ratio___init__ ["self", "top", "bottom"] (spR K A F_Ratio___init__ 3 0) := by
  refine FunD.ok (CX := L2.CX P w) T.F_Ratio___init__ sc_Ratio___init__ (fun vs H Q E h => h.1) (fun cdv Ar outer s H vs Q E hr h => ?_)
  exact ⟨liftS K A (some 0) mm_Ratio___init__, (by unfold mm_Ratio___init__ mt_Ratio___init___3 mt_Ratio___init___2 mt_Ratio___init___1; exact ((pdss_cons (pds_if (pdt_not (pdt_val (pd_call hl_is_integer (ok_is_integer T) (hr.mono (by decide)) rfl T.g_is_integer T.kp_is_integer T.b_is_integer passL (pda_cons (pd_var (pv 1)) pda_nil)))) (pdss_one pds_no) pdss_nil)
  (pdss_cons (pds_if (pdt_w (pdw_or (pdt_not (pdt_val (pd_call hl_is_integer (ok_is_integer T) (hr.mono (by decide)) rfl T.g_is_integer T.kp_is_integer T.b_is_integer passL (pda_cons (pd_var (pv 2)) pda_nil)))) (pdw_or1 (pdt_cmp o_lt (pd_var (pv 2)) pd_int (nomark _))))) (pdss_one pds_no) pdss_nil)
  (pdss_cons (pds_set (i := 3) sc_Ratio___init__.nd rfl (by first | exact Or.inl rfl | exact Or.inr rfl) (pd_call hl_shared_factor (ok_shared_factor T) (hr.mono (by decide)) rfl T.g_shared_factor T.kp_shared_factor T.b_shared_factor passL (pda_cons (pd_var (pv 1)) (pda_cons (pd_var (pv 2)) pda_nil))) (fun _ => by decide))
  (pdss_cons (pds_fld T.kd T.fl_Ratio_top T.nl_Ratio (pv 0) (pd_bin o_fdiv (pd_var (pv 1)) (pd_var (pv 3))))
  (pdss_one (pds_fld T.kd T.fl_Ratio_bottom T.nl_Ratio (pv 0) (pd_bin o_fdiv (pd_var (pv 2)) (pd_var (pv 3))))))))))), enter_R (p := 3) rfl (by decide) (by rw [q_Ratio___init__] at h; exact h)⟩
theorem ok_as_ratio (T : Txt K mg A x) : FnOk P w K mg base (L2.CX P w) 6 x.f_as_ratio x.d_as_ratio ["value"] (spF K A F_as_ratio 1) := by
  refine T.F_as_ratio.okX sc_as_ratio (fun vs H Q E h => h.1) (fun cdv Ar outer s H vs Q E hr h => ?_)
  exact ⟨liftS K A none mm_as_ratio, (by unfold mm_as_ratio; exact ((pdss_one (pds_ret (pd_if (pdt_val (pd_callB (o_isi T.kd) (by rfl) T.n_isinstance (by decide +kernel) (pda_cons (pd_var (pv 0)) (pda_cons (pd_c (pe_glob (v := .ref (A.ad 0)) rfl T.g_Ratio rfl) fun _ => .cls 0 T.in_Ratio) pda_nil)))) (pd_var (pv 0)) (pd_make T.in_Ratio hi_Ratio___init__ (fun _ => (.cons (.int 1) .nil)) T.mk_Ratio (ok_Ratio___init__ T) (hr.mono (by decide)) rfl T.g_Ratio (T.bd_Ratio___init___1).choose_spec.2 (T.bd_Ratio___init___1).choose_spec.1 passL (pda_cons (pd_var (pv 0)) pda_nil))))))), enter_F (p := 1) rfl (by decide) (by rw [q_as_ratio] at h; exact h)⟩
theorem ok_compared (T : Txt K mg A x) : FnOk P w K mg base (L2.CX P w) 1 x.f_compared x.d_compared ["one", "other"] (spF K A F_compared 2) := by
  refine T.F_compared.okX sc_compared (fun vs H Q E h => h.1) (fun cdv Ar outer s H vs Q E hr h => ?_)
  exact ⟨liftS K A none mm_compared, (by unfold mm_compared mt_compared_1; exact ((pdss_cons (pds_par (i := 2) (k := 3) rfl sc_compared.nd rfl rfl (by decide) rfl rfl (pd_bin (o_mul o_no) (pd_fld T.kd T.fl_Ratio_top (pd_var (pv 0))) (pd_fld T.kd T.fl_Ratio_bottom (pd_var (pv 1)))) (pd_bin (o_mul o_no) (pd_fld T.kd T.fl_Ratio_top (pd_var (pv 1))) (pd_fld T.kd T.fl_Ratio_bottom (pd_var (pv 0)))) (fun _ => by decide) (by rfl))
  (pdss_cons (pds_if (pdt_cmp (o_eq hr.units o_no) (pd_var (pv 2)) (pd_var (pv 3)) (nomark _)) (pdss_one (pds_ret pd_int)) pdss_nil)
  (pdss_one (pds_ret (pd_if (pdt_cmp o_lt (pd_var (pv 2)) (pd_var (pv 3)) (nomark _)) (pd_un (o_neg o_no1) pd_int) pd_int))))))), enter_F (p := 2) rfl (by decide) (by rw [q_compared] at h; exact h)⟩
theorem ok_is_above (T : Txt K mg A x) : FnOk P w K mg base (L2.CX P w) 8 x.f_is_above x.d_is_above ["one", "other"] (spF K A F_is_above 2) := by
  refine T.F_is_above.okX sc_is_above (fun vs H Q E h => h.1) (fun cdv Ar outer s H vs Q E hr h => ?_)
  exact ⟨liftS K A none mm_is_above, (by unfold mm_is_above; exact ((pdss_one (pds_ret (pd_cmp o_gt (pd_call hl_compared (ok_compared T) (hr.mono (by decide)) rfl T.g_compared T.kp_compared T.b_compared passL (pda_cons (pd_call hl_as_ratio (ok_as_ratio T) (hr.mono (by decide)) rfl T.g_as_ratio T.kp_as_ratio T.b_as_ratio passL (pda_cons (pd_var (pv 0)) pda_nil)) (pda_cons (pd_call hl_as_ratio (ok_as_ratio T) (hr.mono (by decide)) rfl T.g_as_ratio T.kp_as_ratio T.b_as_ratio passL (pda_cons (pd_var (pv 1)) pda_nil)) pda_nil))) pd_int (nomark _)))))), enter_F (p := 2) rfl (by decide) (by rw [q_is_above] at h; exact h)⟩
theorem ok_is_fraction (T : Txt K mg A x) : FnOk P w K mg base (L2.CX P w) 3 x.f_is_fraction x.d_is_fraction ["value"] (spF K A F_is_fraction 1) := by
  refine T.F_is_fraction.okX sc_is_fraction (fun vs H Q E h => h.1) (fun cdv Ar outer s H vs Q E hr h => ?_)
  exact ⟨liftS K A none mm_is_fraction, (by unfold mm_is_fraction; exact ((pdss_one (pds_ret (pd_or (pd_call hl_is_integer (ok_is_integer T) (hr.mono (by decide)) rfl T.g_is_integer T.kp_is_integer T.b_is_integer passL (pda_cons (pd_var (pv 0)) pda_nil)) (pd_one (pd_callB (o_isi T.kd) (by rfl) T.n_isinstance (by decide +kernel) (pda_cons (pd_var (pv 0)) (pda_cons (pd_c (pe_glob (v := .ref (A.ad 0)) rfl T.g_Ratio rfl) fun _ => .cls 0 T.in_Ratio) pda_nil))))))))), enter_F (p := 1) rfl (by decide) (by rw [q_is_fraction] at h; exact h)⟩
theorem ok_are_lengths (T : Txt K mg A x) : FnOk P w K mg base (L2.CX P w) 10 x.f_are_lengths x.d_are_lengths ["value"] (spF K A F_are_lengths 1) := by
  refine T.F_are_lengths.okX sc_are_lengths (fun vs H Q E h => h.1) (fun cdv Ar outer s H vs Q E hr h => ?_)
  exact ⟨liftS K A none mm_are_lengths, (by unfold mm_are_lengths; exact ((pdss_cons (pds_if (pdt_not (pdt_val (pd_callB (o_isi T.kd) (by rfl) T.n_isinstance (by decide +kernel) (pda_cons (pd_var (pv 0)) (pda_cons (pd_c (pe_bltn (v := .ty "dict") (by rfl) T.n_dict (by decide +kernel) rfl) fun _ => .ty .dict) pda_nil))))) (pdss_one (pds_ret pd_bl)) pdss_nil)
  (pdss_one (pds_ret (pd_callB (o_all rfl) (by rfl) T.n_all (by decide +kernel) (pda_cons (pd_lcK (by decide) (pe_lc (own := [("name", 1)]) rfl sc_are_lengths.nd (pi_keys (pv 0)) (blkOk_by (own := [("name", 1)]) (N := nm_are_lengths) (sc := defScope st_are_lengths) (by decide +kernel)) (fun _ _ _ _ _ => (pdg_name (pg_name (i := 1) sc_are_lengths.nd rfl (by first | exact Or.inl rfl | exact Or.inr rfl)))) (fun _ _ _ _ _ => pdts_nil) (fun _ _ _ _ _ => (pd_and (pd_call hl_are_small (ok_are_small T) (hr.mono (by decide)) rfl T.g_are_small T.kp_are_small T.b_are_small passL (pda_cons (pd_var (pv 1)) (pda_cons pd_int (pda_cons pd_int pda_nil)))) (pd_and (pd_call hl_is_fraction (ok_is_fraction T) (hr.mono (by decide)) rfl T.g_is_fraction T.kp_is_fraction T.b_is_fraction passL (pda_cons (pd_borix hr.units1 (pv 0) (pd_var (pv 1)) (fun _ _ => rfl)) pda_nil)) (pd_one (pd_not (pd_call hl_is_above (ok_is_above T) (hr.mono (by decide)) rfl T.g_is_above T.kp_is_above T.b_is_above passL (pda_cons pd_int (pda_cons (pd_borix hr.units1 (pv 0) (pd_var (pv 1)) (fun _ _ => rfl)) pda_nil)))))))))) pda_nil))))))), enter_F (p := 1) rfl (by decide) (by rw [q_are_lengths] at h; exact h)⟩
theorem ok_Ratio___add__ (T : Txt K mg A x) : FnOk P w K mg base (L2.CX P w) 8 x.f_Ratio___add__ x.d_Ratio___add__ ["self", "other"] (spF K A F_Ratio___add__ 2) := by
  refine T.F_Ratio___add__.okX sc_Ratio___add__ (fun vs H Q E h => h.1) (fun cdv Ar outer s H vs Q E hr h => ?_)
  exact ⟨liftS K A none mm_Ratio___add__, (by unfold mm_Ratio___add__ mt_Ratio___add___1; exact ((pdss_cons (pds_if (pdt_not (pdt_val (pd_call hl_is_fraction (ok_is_fraction T) (hr.mono (by decide)) rfl T.g_is_fraction T.kp_is_fraction T.b_is_fraction passL (pda_cons (pd_var (pv 1)) pda_nil)))) (pdss_one pds_no) pdss_nil)
  (pdss_cons (pds_set (i := 2) sc_Ratio___add__.nd rfl (by first | exact Or.inl rfl | exact Or.inr rfl) (pd_call hl_as_ratio (ok_as_ratio T) (hr.mono (by decide)) rfl T.g_as_ratio T.kp_as_ratio T.b_as_ratio passL (pda_cons (pd_var (pv 1)) pda_nil)) (fun _ => by decide))
  (pdss_one (pds_ret (pd_make T.in_Ratio hi_Ratio___init__ (fun _ => .nil) T.mk_Ratio (ok_Ratio___init__ T) (hr.mono (by decide)) rfl T.g_Ratio T.b_Ratio___init__ .nil passL (pda_cons (pd_bin (o_add o_no) (pd_bin (o_mul o_no) (pd_fld T.kd T.fl_Ratio_top (pd_var (pv 0))) (pd_fld T.kd T.fl_Ratio_bottom (pd_var (pv 2)))) (pd_bin (o_mul o_no) (pd_fld T.kd T.fl_Ratio_top (pd_var (pv 2))) (pd_fld T.kd T.fl_Ratio_bottom (pd_var (pv 0))))) (pda_cons (pd_bin (o_mul o_no) (pd_fld T.kd T.fl_Ratio_bottom (pd_var (pv 0))) (pd_fld T.kd T.fl_Ratio_bottom (pd_var (pv 2)))) pda_nil))))))))), enter_F (p := 2) rfl (by decide) (by rw [q_Ratio___add__] at h; exact h)⟩
theorem ok_Ratio___mul__ (T : Txt K mg A x) : FnOk P w K mg base (L2.CX P w) 8 x.f_Ratio___mul__ x.d_Ratio___mul__ ["self", "other"] (spF K A F_Ratio___mul__ 2) := by
  refine T.F_Ratio___mul__.okX sc_Ratio___mul__ (fun vs H Q E h => h.1) (fun cdv Ar outer s H vs Q E hr h => ?_)
  exact ⟨liftS K A none mm_Ratio___mul__, (by unfold mm_Ratio___mul__ mt_Ratio___mul___1; exact ((pdss_cons (pds_if (pdt_not (pdt_val (pd_call hl_is_fraction (ok_is_fraction T) (hr.mono (by decide)) rfl T.g_is_fraction T.kp_is_fraction T.b_is_fraction passL (pda_cons (pd_var (pv 1)) pda_nil)))) (pdss_one pds_no) pdss_nil)
  (pdss_cons (pds_set (i := 2) sc_Ratio___mul__.nd rfl (by first | exact Or.inl rfl | exact Or.inr rfl) (pd_call hl_as_ratio (ok_as_ratio T) (hr.mono (by decide)) rfl T.g_as_ratio T.kp_as_ratio T.b_as_ratio passL (pda_cons (pd_var (pv 1)) pda_nil)) (fun _ => by decide))
  (pdss_one (pds_ret (pd_make T.in_Ratio hi_Ratio___init__ (fun _ => .nil) T.mk_Ratio (ok_Ratio___init__ T) (hr.mono (by decide)) rfl T.g_Ratio T.b_Ratio___init__ .nil passL (pda_cons (pd_bin (o_mul o_no) (pd_fld T.kd T.fl_Ratio_top (pd_var (pv 0))) (pd_fld T.kd T.fl_Ratio_top (pd_var (pv 2)))) (pda_cons (pd_bin (o_mul o_no) (pd_fld T.kd T.fl_Ratio_bottom (pd_var (pv 0))) (pd_fld T.kd T.fl_Ratio_bottom (pd_var (pv 2)))) pda_nil))))))))), enter_F (p := 2) rfl (by decide) (by rw [q_Ratio___mul__] at h; exact h)⟩
theorem ok_Ratio___rmul__ (T : Txt K mg A x) : FnOk P w K mg base (L2.CX P w) 10 x.f_Ratio___rmul__ x.d_Ratio___rmul__ ["self", "other"] (spF K A F_Ratio___rmul__ 2) := by
  refine T.F_Ratio___rmul__.okX sc_Ratio___rmul__ (fun vs H Q E h => h.1) (fun cdv Ar outer s H vs Q E hr h => ?_)
  exact ⟨liftS K A none mm_Ratio___rmul__, (by unfold mm_Ratio___rmul__; exact ((pdss_cons (pds_if (pdt_not (pdt_val (pd_call hl_is_fraction (ok_is_fraction T) (hr.mono (by decide)) rfl T.g_is_fraction T.kp_is_fraction T.b_is_fraction passL (pda_cons (pd_var (pv 1)) pda_nil)))) (pdss_one pds_no) pdss_nil)
  (pdss_one (pds_ret (pd_bin (o_mul (o_sel (o_cc T.sf_Ratio T.o_Ratio_mul (ok_Ratio___mul__ T) (hr.mono (by decide)) T.b_Ratio___mul__ passL) o_no)) (pd_call hl_as_ratio (ok_as_ratio T) (hr.mono (by decide)) rfl T.g_as_ratio T.kp_as_ratio T.b_as_ratio passL (pda_cons (pd_var (pv 1)) pda_nil)) (pd_var (pv 0)))))))), enter_F (p := 2) rfl (by decide) (by rw [q_Ratio___rmul__] at h; exact h)⟩
theorem ok_worth (T : Txt K mg A x) : FnOk P w K mg base (L2.CX P w) 12 x.f_worth x.d_worth ["form", "lengths"] (spF K A F_worth 2) := by
  refine T.F_worth.okX sc_worth (fun vs H Q E h => h.1) (fun cdv Ar outer s H vs Q E hr h => ?_)
  have pO : PassesOwn (model P w) (cxOf (L2.CX P w) P w K mg base nm_worth "worth" (defScope st_worth) x.f_worth cdv Ar outer s H E).A (cxOf (L2.CX P w) P w K mg base nm_worth "worth" (defScope st_worth) x.f_worth cdv Ar outer s H E).env (cxOf (L2.CX P w) P w K mg base nm_worth "worth" (defScope st_worth) x.f_worth cdv Ar outer s H E).xe := passes_of rfl
  exact ⟨liftS K A none mm_worth, (by unfold mm_worth mt_worth_2 mt_worth_1; exact ((pdss_cons (pds_set (i := 2) sc_worth.nd rfl (by first | exact Or.inl rfl | exact Or.inr rfl) (pd_make T.in_Ratio hi_Ratio___init__ (fun _ => (.cons (.int 1) .nil)) T.mk_Ratio (ok_Ratio___init__ T) (hr.mono (by decide)) rfl T.g_Ratio (T.bd_Ratio___init___1).choose_spec.2 (T.bd_Ratio___init___1).choose_spec.1 passL (pda_cons (pd_fld T.kd T.fl_Form_constant (pd_var (pv 0))) pda_nil)) (fun _ => by decide))
  (pdss_cons (pds_for pO rfl (pdi_val (pd_fld T.kd T.fl_Form_terms (pd_var (pv 0)))) (pdg_tup rfl (pdgs_cons (pdg_name (pg_name (i := 3) sc_worth.nd rfl (by first | exact Or.inl rfl | exact Or.inr rfl))) (pdgs_cons (pdg_name (pg_name (i := 4) sc_worth.nd rfl (by first | exact Or.inl rfl | exact Or.inr rfl))) pdgs_nil))) (pdss_one (pds_set (i := 2) sc_worth.nd rfl (by first | exact Or.inl rfl | exact Or.inr rfl) (pd_bin (o_add (o_sel (o_cc T.sf_Ratio T.o_Ratio_add (ok_Ratio___add__ T) (hr.mono (by decide)) T.b_Ratio___add__ passL) o_no)) (pd_var (pv 2)) (pd_bin (o_mul (o_sel (o_ci T.sf_Ratio T.o_Ratio_mul (ok_Ratio___mul__ T) (hr.mono (by decide)) T.b_Ratio___mul__ passL T.r_Ratio_mul.rev (.inr ⟨_, rfl⟩) T.r_Ratio_mul.i1 T.r_Ratio_mul.i2 T.int_Ratio) o_no)) (pd_call hl_as_ratio (ok_as_ratio T) (hr.mono (by decide)) rfl T.g_as_ratio T.kp_as_ratio T.b_as_ratio passL (pda_cons (pd_borix hr.units1 (pv 1) (pd_var (pv 3)) (fun _ _ => rfl)) pda_nil)) (pd_var (pv 4)))) (fun _ => by decide))))
  (pdss_one (pds_retV (pv 2) (by decide))))))), enter_F (p := 2) rfl (by decide) (by rw [q_worth] at h; exact h)⟩
theorem ok_Form_at (T : Txt K mg A x) : FnOk P w K mg base (L2.CX P w) 14 x.f_Form_at x.d_Form_at ["self", "lengths"] (spF K A F_Form_at 2) := by
  refine T.F_Form_at.okX sc_Form_at (fun vs H Q E h => h.1) (fun cdv Ar outer s H vs Q E hr h => ?_)
  exact ⟨liftS K A none mm_Form_at, (by unfold mm_Form_at; exact ((pdss_cons (pds_if (pdt_w (pdw_or (pdt_not (pdt_val (pd_call hl_are_lengths (ok_are_lengths T) (hr.mono (by decide)) rfl T.g_are_lengths T.kp_are_lengths T.b_are_lengths passL (pda_cons (pd_var (pv 1)) pda_nil)))) (pdw_or1 (pdt_not (pdt_val (pd_callB (o_all rfl) (by rfl) T.n_all (by decide +kernel) (pda_cons (pd_lc (by decide) (pe_lc (own := [("name", 2)]) rfl sc_Form_at.nd (pdi_val (pd_fld T.kd T.fl_Form_names (pd_var (pv 0)))) (blkOk_by (own := [("name", 2)]) (N := nm_Form_at) (sc := defScope st_Form_at) (by decide +kernel)) (fun _ _ _ _ _ => (pdg_name (pg_name (i := 2) sc_Form_at.nd rfl (by first | exact Or.inl rfl | exact Or.inr rfl)))) (fun _ _ _ _ _ => pdts_nil) (fun _ _ _ _ _ => (pd_borin (u65 hr) (pd_var (pv 2)) (pv 1) (by with_unfolding_all rfl))))) pda_nil))))))) (pdss_one pds_no) pdss_nil)
  (pdss_one (pds_ret (pd_call hl_worth (ok_worth T) (hr.mono (by decide)) rfl T.g_worth T.kp_worth T.b_worth passL (pda_cons (pd_var (pv 0)) (pda_cons (pd_var (pv 1)) pda_nil)))))))), enter_F (p := 2) rfl (by decide) (by rw [q_Form_at] at h; exact h)⟩
theorem ok_Ratio___eq__ (T : Txt K mg A x) : FnOk P w K mg base (L2.CX P w) 8 x.f_Ratio___eq__ x.d_Ratio___eq__ ["self", "other"] (spF K A F_Ratio___eq__ 2) := by
  refine T.F_Ratio___eq__.okX sc_Ratio___eq__ (fun vs H Q E h => h.1) (fun cdv Ar outer s H vs Q E hr h => ?_)
  exact ⟨liftS K A none mm_Ratio___eq__, (by unfold mm_Ratio___eq__ mt_Ratio___eq___1; exact ((pdss_cons (pds_if (pdt_not (pdt_val (pd_call hl_is_fraction (ok_is_fraction T) (hr.mono (by decide)) rfl T.g_is_fraction T.kp_is_fraction T.b_is_fraction passL (pda_cons (pd_var (pv 1)) pda_nil)))) (pdss_one (pds_ret pd_bl)) pdss_nil)
  (pdss_cons (pds_set (i := 2) sc_Ratio___eq__.nd rfl (by first | exact Or.inl rfl | exact Or.inr rfl) (pd_call hl_as_ratio (ok_as_ratio T) (hr.mono (by decide)) rfl T.g_as_ratio T.kp_as_ratio T.b_as_ratio passL (pda_cons (pd_var (pv 1)) pda_nil)) (fun _ => by decide))
  (pdss_one (pds_ret (pd_and (pd_cmp (o_eq hr.units o_no) (pd_fld T.kd T.fl_Ratio_top (pd_var (pv 0))) (pd_fld T.kd T.fl_Ratio_top (pd_var (pv 2))) (nomark _)) (pd_one (pd_cmp (o_eq hr.units o_no) (pd_fld T.kd T.fl_Ratio_bottom (pd_var (pv 0))) (pd_fld T.kd T.fl_Ratio_bottom (pd_var (pv 2))) (nomark _)))))))))), enter_F (p := 2) rfl (by decide) (by rw [q_Ratio___eq__] at h; exact h)⟩
theorem ok__law_added (T : Txt K mg A x) : FnOk P w K mg base (L2.CX P w) 1 x.f__law_added x.d__law_added ["_law_one_here", "_law_two", "_law_by"] (spF K A F__law_added 3) := by
  refine T.F__law_added.okX sc__law_added (fun vs H Q E h => h.1) (fun cdv Ar outer s H vs Q E hr h => ?_)
  have pO : PassesOwn (model P w) (cxOf (L2.CX P w) P w K mg base nm__law_added "_law_added" (defScope st__law_added) x.f__law_added cdv Ar outer s H E).A (cxOf (L2.CX P w) P w K mg base nm__law_added "_law_added" (defScope st__law_added) x.f__law_added cdv Ar outer s H E).env (cxOf (L2.CX P w) P w K mg base nm__law_added "_law_added" (defScope st__law_added) x.f__law_added cdv Ar outer s H E).xe := passes_of rfl
  exact ⟨liftS K A none mm__law_added, (by unfold mm__law_added mt__law_added_2 mt__law_added_1; exact ((pdss_cons (pds_set (i := 3) sc__law_added.nd rfl (by first | exact Or.inl rfl | exact Or.inr rfl) (pd_callTy (o_dict rfl) (by rfl) T.n_dict (by decide +kernel) (pda_cons (pd_var (pv 0)) pda_nil)) (fun _ => by decide))
  (pdss_cons (pds_forK (ps_for pO rfl (pi_keys (pv 1)) (pdg_name (pg_name (i := 4) sc__law_added.nd rfl (by first | exact Or.inl rfl | exact Or.inr rfl))) (pdss_one (pds_put hr.units1 (pv 3) (pd_var (pv 4)) (pd_bin (o_add o_no) (pd_getS hr.units1 (pv 3) (pd_var (pv 4)) pd_int ⟨rfl, rfl, rfl, rfl⟩) (pd_bin (o_mul o_no) (pd_var (pv 2)) (pd_borix hr.units1 (pv 1) (pd_var (pv 4)) (fun _ _ => rfl))))))))
  (pdss_one (pds_retV (pv 3) (by decide))))))), enter_F (p := 3) rfl (by decide) (by rw [q__law_added] at h; exact h)⟩
theorem ok__law_draw (T : Txt K mg A x) : FnOk P w K mg base (L2.CX P w) 1 x.f__law_draw x.d__law_draw ["_law_bag_here", "_law_wide"] (spR K A F__law_draw 2 0) := by
  refine T.F__law_draw.okX sc__law_draw (fun vs H Q E h => h.1) (fun cdv Ar outer s H vs Q E hr h => ?_)
  exact ⟨liftS K A (some 0) mm__law_draw, (by unfold mm__law_draw mt__law_draw_5 mt__law_draw_4 mt__law_draw_3 mt__law_draw_2 mt__law_draw_1; exact ((pdss_cons (pds_put hr.units1 (pv 0) pd_int (pd_bin (o_add o_no) (pd_borix hr.units1 (pv 0) pd_int (fun _ _ => rfl)) pd_int))
  (pdss_cons (pds_if (pdt_cmp o_gt (pd_borix hr.units1 (pv 0) pd_int (fun _ _ => rfl)) pd_int (nomark _)) (pdss_cons (pds_set (i := 2) sc__law_draw.nd rfl (by first | exact Or.inl rfl | exact Or.inr rfl) (pd_bin o_mod (pd_callTy o_int (by rfl) T.n_int (by decide +kernel) (pda_cons (pd_borix hr.units1 (pv 0) pd_int (fun _ _ => rfl)) pda_nil)) (pd_var (pv 1))) (fun _ => by decide))
  (pdss_cons (pds_put hr.units1 (pv 0) pd_int (pd_bin o_fdiv (pd_borix hr.units1 (pv 0) pd_int (fun _ _ => rfl)) (pd_var (pv 1))))
  (pdss_one (pds_retV (pv 2) (by decide))))) pdss_nil)
  (pdss_cons (pds_set (i := 3) sc__law_draw.nd rfl (by first | exact Or.inl rfl | exact Or.inr rfl) (pd_bin (o_add o_no) (pd_callTy o_int (by rfl) T.n_int (by decide +kernel) (pda_cons (pd_borix hr.units1 (pv 0) pd_int (fun _ _ => rfl)) pda_nil)) (pd_bin (o_mul o_no) pd_int (pd_borix hr.units1 (pv 0) pd_int (fun _ _ => rfl)))) (fun _ => by decide))
  (pdss_cons (pds_set (i := 4) sc__law_draw.nd rfl (by first | exact Or.inl rfl | exact Or.inr rfl) (pd_bin (o_add o_no) (pd_bin o_mod (pd_callTy o_int (by rfl) T.n_int (by decide +kernel) (pda_cons (pd_var (pv 3)) pda_nil)) pd_int) pd_int) (fun _ => by decide))
  (pdss_cons (pds_put hr.units1 (pv 0) pd_int (pd_bin o_mod (pd_callTy o_int (by rfl) T.n_int (by decide +kernel) (pda_cons (pd_bin (o_add o_no) (pd_bin (o_add o_no) (pd_bin (o_mul o_no) (pd_var (pv 3)) (pd_var (pv 4))) (pd_bin (o_mul o_no) pd_int (pd_borix hr.units1 (pv 0) pd_int (fun _ _ => rfl)))) pd_int) pda_nil)) pd_int))
  (pdss_one (pds_ret (pd_bin o_mod (pd_bin o_fdiv (pd_callTy o_int (by rfl) T.n_int (by decide +kernel) (pda_cons (pd_borix hr.units1 (pv 0) pd_int (fun _ _ => rfl)) pda_nil)) pd_int) (pd_var (pv 1)))))))))))), enter_R (p := 2) rfl (by decide) (by rw [q__law_draw] at h; exact h)⟩
theorem ok__law_one (T : Txt K mg A x) : FnOk P w K mg base (L2.CX P w) 3 x.f__law_one x.d__law_one ["_law_bag_here", "_law_some"] (spR K A F__law_one 2 0) := by
  refine T.F__law_one.okX sc__law_one (fun vs H Q E h => h.1) (fun cdv Ar outer s H vs Q E hr h => ?_)
  exact ⟨liftS K A (some 0) mm__law_one, (by unfold mm__law_one; exact ((pdss_one (pds_ret (pd_borix hr.units1 (pv 1) (pd_callR (ok__law_draw T) rfl rfl (hr.mono (by decide)) rfl T.g__law_draw T.kp__law_draw T.b__law_draw passL (par_nil (pv 0) (pda_cons (PE.imp (pe_callB (o_lenb o_noN) (by rfl) T.n_len (by decide +kernel) (pa_cons (pv 1) pa_nil)) fun _ _ _ => bor1_use (nf_len nf_no1)) pda_nil))) (fun _ _ => rfl)))))), enter_R (p := 2) rfl (by decide) (by rw [q__law_one] at h; exact h)⟩
theorem ok__law_drawn (T : Txt K mg A x) : FnOk P w K mg base (L2.CX P w) 5 x.f__law_drawn x.d__law_drawn ["_law_bag_here"] (spR K A F__law_drawn 1 0) := by
  refine T.F__law_drawn.okX sc__law_drawn (fun vs H Q E h => h.1) (fun cdv Ar outer s H vs Q E hr h => ?_)
  have pO : PassesOwn (model P w) (cxOf (L2.CX P w) P w K mg base nm__law_drawn "_law_drawn" (defScope st__law_drawn) x.f__law_drawn cdv Ar outer s H E).A (cxOf (L2.CX P w) P w K mg base nm__law_drawn "_law_drawn" (defScope st__law_drawn) x.f__law_drawn cdv Ar outer s H E).env (cxOf (L2.CX P w) P w K mg base nm__law_drawn "_law_drawn" (defScope st__law_drawn) x.f__law_drawn cdv Ar outer s H E).xe := passes_of rfl
  exact ⟨liftS K A (some 0) mm__law_drawn, (by unfold mm__law_drawn mt__law_drawn_2 mt__law_drawn_1; exact ((pdss_cons (pds_set (i := 1) sc__law_drawn.nd rfl (by first | exact Or.inl rfl | exact Or.inr rfl) pd_dnew (fun _ => by decide))
  (pdss_cons (pds_for pO rfl (pdi_range1 (by rfl) T.n_range (pda_cons (pd_callR (ok__law_draw T) rfl rfl (hr.mono (by decide)) rfl T.g__law_draw T.kp__law_draw T.b__law_draw passL (par_nil (pv 0) (pda_cons pd_int pda_nil))) pda_nil)) (pdg_name (pg_name (i := 2) sc__law_drawn.nd rfl (by first | exact Or.inl rfl | exact Or.inr rfl))) (pdss_cons (pds_set (i := 3) sc__law_drawn.nd rfl (by first | exact Or.inl rfl | exact Or.inr rfl) (pd_bin (o_add o_no) pd_int (pd_callR (ok__law_one T) rfl rfl (hr.mono (by decide)) rfl T.g__law_one T.kp__law_one T.b__law_one passL (par_nil (pv 0) (pda_cons (pd_lst (pda_cons pd_int (pda_cons pd_int (pda_cons (pd_callR (ok__law_draw T) rfl rfl (hr.mono (by decide)) rfl T.g__law_draw T.kp__law_draw T.b__law_draw passL (par_nil (pv 0) (pda_cons pd_int pda_nil))) (pda_cons (pd_callR (ok__law_draw T) rfl rfl (hr.mono (by decide)) rfl T.g__law_draw T.kp__law_draw T.b__law_draw passL (par_nil (pv 0) (pda_cons (pd_bin o_pow pd_int pd_int) pda_nil))) pda_nil))))) pda_nil)))) (fun _ => by decide))
  (pdss_one (pds_put hr.units1 (pv 1) (pd_callR (ok__law_one T) rfl rfl (hr.mono (by decide)) rfl T.g__law_one T.kp__law_one T.b__law_one passL (par_nil (pv 0) (pda_cons (pd_str (by decide +kernel)) pda_nil))) (pd_bin (o_mul o_no) (pd_var (pv 3)) (pd_callR (ok__law_one T) rfl rfl (hr.mono (by decide)) rfl T.g__law_one T.kp__law_one T.b__law_one passL (par_nil (pv 0) (pda_cons (pd_lst (pda_cons pd_int (pda_cons (pd_bin (o_sub o_no) pd_int pd_int) pda_nil))) pda_nil))))))))
  (pdss_one (pds_ret (pd_tup (pda_cons (pd_callR (ok__law_one T) rfl rfl (hr.mono (by decide)) rfl T.g__law_one T.kp__law_one T.b__law_one passL (par_nil (pv 0) (pda_cons (pd_lst (pda_cons pd_int (pda_cons pd_int (pda_cons (pd_bin (o_sub o_no) pd_int pd_int) (pda_cons (pd_callR (ok__law_draw T) rfl rfl (hr.mono (by decide)) rfl T.g__law_draw T.kp__law_draw T.b__law_draw passL (par_nil (pv 0) (pda_cons (pd_bin o_pow pd_int pd_int) pda_nil))) pda_nil))))) pda_nil))) (pda_cons (pd_var (pv 1)) pda_nil))))))))), enter_R (p := 1) rfl (by decide) (by rw [q__law_drawn] at h; exact h)⟩
theorem ok__law_pairs (T : Txt K mg A x) : FnOk P w K mg base (L2.CX P w) 1 x.f__law_pairs x.d__law_pairs ["_law_numbers"] (spF K A F__law_pairs 1) := by
  refine T.F__law_pairs.okX sc__law_pairs (fun vs H Q E h => h.1) (fun cdv Ar outer s H vs Q E hr h => ?_)
  exact ⟨liftS K A none mm__law_pairs, (by unfold mm__law_pairs; exact ((pdss_one (pds_ret (pd_callTy o_tuple (by rfl) T.n_tuple (by decide +kernel) (pda_cons (pd_lc (by decide) (pe_lc (own := [("_law_each", 1)]) rfl sc__law_pairs.nd (pdi_val (pd_callB o_sorted (by rfl) T.n_sorted (by decide +kernel) (pda_cons (pd_callTy (o_list rfl) (by rfl) T.n_list (by decide +kernel) (pda_cons (pd_var (pv 0)) pda_nil)) pda_nil))) (blkOk_by (own := [("_law_each", 1)]) (N := nm__law_pairs) (sc := defScope st__law_pairs) (by decide +kernel)) (fun _ _ _ _ _ => (pdg_name (pg_name (i := 1) sc__law_pairs.nd rfl (by first | exact Or.inl rfl | exact Or.inr rfl)))) (fun _ _ _ _ _ => (pdts_one (pdt_cmp (o_ne hr.units o_noNe) (pd_borix hr.units1 (pv 0) (pd_var (pv 1)) (fun _ _ => rfl)) pd_int (nomark _)))) (fun _ _ _ _ _ => (pd_tup (pda_cons (pd_var (pv 1)) (pda_cons (pd_borix hr.units1 (pv 0) (pd_var (pv 1)) (fun _ _ => rfl)) pda_nil)))))) pda_nil)))))), enter_F (p := 1) rfl (by decide) (by rw [q__law_pairs] at h; exact h)⟩
theorem ok__law_due (T : Txt K mg A x) : FnOk P w K mg base (L2.CX P w) 3 x.f__law_due x.d__law_due ["_law_first", "_law_numbers"] (spF K A F__law_due 2) := by
  refine T.F__law_due.okX sc__law_due (fun vs H Q E h => h.1) (fun cdv Ar outer s H vs Q E hr h => ?_)
  exact ⟨liftS K A none mm__law_due, (by unfold mm__law_due; exact ((pdss_cons (pds_set (i := 2) sc__law_due.nd rfl (by first | exact Or.inl rfl | exact Or.inr rfl) (pd_call hl__law_pairs (ok__law_pairs T) (hr.mono (by decide)) rfl T.g__law_pairs T.kp__law_pairs T.b__law_pairs passL (pda_cons (pd_var (pv 1)) pda_nil)) (fun _ => by decide))
  (pdss_one (pds_ret (pd_lst (pda_cons (pd_var (pv 0)) (pda_cons (pd_var (pv 2)) (pda_cons (pd_join (pd_str (by decide +kernel)) (pd_lc (by decide) (pe_lc (own := [("_law_pair", 3)]) rfl sc__law_due.nd (pdi_val (pd_var (pv 2))) (blkOk_by (own := [("_law_pair", 3)]) (N := nm__law_due) (sc := defScope st__law_due) (by decide +kernel)) (fun _ _ _ _ _ => (pdg_name (pg_name (i := 3) sc__law_due.nd rfl (by first | exact Or.inl rfl | exact Or.inr rfl)))) (fun _ _ _ _ _ => pdts_nil) (fun _ _ _ _ _ => (pd_borix hr.units1 (pv 3) pd_int (fun _ _ => rfl))))) (fun h a b => pe_m1 PySem.F.slot_str_join PySem.F.type_str_join h a b)) pda_nil))))))))), enter_F (p := 2) rfl (by decide) (by rw [q__law_due] at h; exact h)⟩
theorem ok__law_shown (T : Txt K mg A x) : FnOk P w K mg base (L2.CX P w) 1 x.f__law_shown x.d__law_shown ["_law_made"] (spF K A F__law_shown 1) := by
  refine T.F__law_shown.okX sc__law_shown (fun vs H Q E h => h.1) (fun cdv Ar outer s H vs Q E hr h => ?_)
  exact ⟨liftS K A none mm__law_shown, (by unfold mm__law_shown; exact ((pdss_one (pds_ret (pd_lst (pda_cons (pd_fld T.kd T.fl_Form_constant (pd_var (pv 0))) (pda_cons (pd_fld T.kd T.fl_Form_terms (pd_var (pv 0))) (pda_cons (pd_fld T.kd T.fl_Form_names (pd_var (pv 0))) pda_nil)))))))), enter_F (p := 1) rfl (by decide) (by rw [q__law_shown] at h; exact h)⟩
theorem ok__law_right (T : Txt K mg A x) : FnOk P w K mg base (L2.CX P w) 16 x.f__law_right x.d__law_right ["_law_bag_here"] (spR K A F__law_right 1 0) := by
  refine T.F__law_right.okX sc__law_right (fun vs H Q E h => h.1) (fun cdv Ar outer s H vs Q E hr h => ?_)
  have pO : PassesOwn (model P w) (cxOf (L2.CX P w) P w K mg base nm__law_right "_law_right" (defScope st__law_right) x.f__law_right cdv Ar outer s H E).A (cxOf (L2.CX P w) P w K mg base nm__law_right "_law_right" (defScope st__law_right) x.f__law_right cdv Ar outer s H E).env (cxOf (L2.CX P w) P w K mg base nm__law_right "_law_right" (defScope st__law_right) x.f__law_right cdv Ar outer s H E).xe := passes_of rfl
  exact ⟨liftS K A (some 0) mm__law_right, (by unfold mm__law_right mt__law_right_18 mt__law_right_17 mt__law_right_16 mt__law_right_15 mt__law_right_14 mt__law_right_13 mt__law_right_12 mt__law_right_11 mt__law_right_10 mt__law_right_9 mt__law_right_8 mt__law_right_7 mt__law_right_6 mt__law_right_5 mt__law_right_4 mt__law_right_3 mt__law_right_2 mt__law_right_1; exact ((pdss_cons (pds_for pO rfl (pdi_range1 (by rfl) T.n_range (pda_cons pd_int pda_nil)) (pdg_name (pg_name (i := 1) sc__law_right.nd rfl (by first | exact Or.inl rfl | exact Or.inr rfl))) (pdss_cons (pds_par (i := 2) (k := 3) rfl sc__law_right.nd rfl rfl (by decide) rfl rfl (pd_callR (ok__law_drawn T) rfl rfl (hr.mono (by decide)) rfl T.g__law_drawn T.kp__law_drawn T.b__law_drawn passL (par_nil (pv 0) pda_nil)) (pd_callR (ok__law_drawn T) rfl rfl (hr.mono (by decide)) rfl T.g__law_drawn T.kp__law_drawn T.b__law_drawn passL (par_nil (pv 0) pda_nil)) (fun _ => by decide) (by rfl))
  (pdss_cons (pds_set (i := 4) sc__law_right.nd rfl (by first | exact Or.inl rfl | exact Or.inr rfl) (pd_callR (ok__law_one T) rfl rfl (hr.mono (by decide)) rfl T.g__law_one T.kp__law_one T.b__law_one passL (par_nil (pv 0) (pda_cons (pd_lst (pda_cons pd_int (pda_cons pd_int (pda_cons (pd_bin (o_sub (o_sel (o_cc T.sf_Form T.o_Form_sub (ok_Form___sub__ T) (hr.mono (by decide)) T.b_Form___sub__ passL) (o_sel (o_ci T.sf_Form T.o_Form_sub (ok_Form___sub__ T) (hr.mono (by decide)) T.b_Form___sub__ passL T.nr_Form_sub (.inl rfl) T.i1_Form_sub T.i2_Form_sub T.int_Form) o_no))) pd_int pd_int) (pda_cons pd_int (pda_cons (pd_bin (o_sub (o_sel (o_cc T.sf_Form T.o_Form_sub (ok_Form___sub__ T) (hr.mono (by decide)) T.b_Form___sub__ passL) (o_sel (o_ci T.sf_Form T.o_Form_sub (ok_Form___sub__ T) (hr.mono (by decide)) T.b_Form___sub__ passL T.nr_Form_sub (.inl rfl) T.i1_Form_sub T.i2_Form_sub T.int_Form) o_no))) pd_int (pd_bin o_pow pd_int pd_int)) pda_nil)))))) pda_nil))) (fun _ => by decide))
  (pdss_cons (pds_if (pdt_cmp (o_eq hr.units (o_sel (o_eqC T.kd T.in_Form T.o_Form_eq (ok_Form___eq__ T) (hr.mono (by decide)) T.b_Form___eq__ passL) (o_sel (o_eqC T.kd T.in_Ratio T.o_Ratio_eq (ok_Ratio___eq__ T) (hr.mono (by decide)) T.b_Ratio___eq__ passL) o_no))) (pd_callR (ok__law_draw T) rfl rfl (hr.mono (by decide)) rfl T.g__law_draw T.kp__law_draw T.b__law_draw passL (par_nil (pv 0) (pda_cons pd_int pda_nil))) pd_int (nomark _)) (pdss_one (pds_set (i := 3) sc__law_right.nd rfl (by first | exact Or.inl rfl | exact Or.inr rfl) (pd_tup (pda_cons (pd_borix hr.units1 (pv 3) pd_int (fun _ _ => rfl)) (pda_cons (pd_call hl__law_added (ok__law_added T) (hr.mono (by decide)) rfl T.g__law_added T.kp__law_added T.b__law_added passL (pda_cons pd_dnew (pda_cons (pd_borix hr.units1 (pv 2) pd_int (fun _ _ => rfl)) (pda_cons (pd_bin (o_sub (o_sel (o_cc T.sf_Form T.o_Form_sub (ok_Form___sub__ T) (hr.mono (by decide)) T.b_Form___sub__ passL) (o_sel (o_ci T.sf_Form T.o_Form_sub (ok_Form___sub__ T) (hr.mono (by decide)) T.b_Form___sub__ passL T.nr_Form_sub (.inl rfl) T.i1_Form_sub T.i2_Form_sub T.int_Form) o_no))) pd_int pd_int) pda_nil)))) pda_nil))) (fun _ => by decide))) pdss_nil)
  (pdss_cons (pds_par (i := 5) (k := 6) rfl sc__law_right.nd rfl rfl (by decide) rfl rfl (pd_make T.in_Form hi_Form___init__ (fun _ => .nil) T.mk_Form (ok_Form___init__ T) (hr.mono (by decide)) rfl T.g_Form T.b_Form___init__ .nil passL (pda_cons (pd_borix hr.units1 (pv 2) pd_int (fun _ _ => rfl)) (pda_cons (pd_call hl__law_pairs (ok__law_pairs T) (hr.mono (by decide)) rfl T.g__law_pairs T.kp__law_pairs T.b__law_pairs passL (pda_cons (pd_borix hr.units1 (pv 2) pd_int (fun _ _ => rfl)) pda_nil)) pda_nil))) (PE.imp (pe_makeK0 T.mk_Form (ok_Form___init__ T) (hr.mono (by decide)) (by rfl) T.g_Form (T.kb_Form___init___0_terms_constant).choose_spec passL (pdk_cons (pd_call hl__law_pairs (ok__law_pairs T) (hr.mono (by decide)) rfl T.g__law_pairs T.kp__law_pairs T.b__law_pairs passL (pda_cons (pd_borix hr.units1 (pv 3) pd_int (fun _ _ => rfl)) pda_nil)) (pdk_cons (pd_borix hr.units1 (pv 3) pd_int (fun _ _ => rfl)) pdk_nil))) fun _ _ _ => makeK_use0 T.in_Form hi_Form___init__ (prm_gv _) (fun _ _ _ => rfl) rfl) (fun _ => by decide) (by rfl))
  (pdss_cons (pds_setlc (by decide) (ps_setLc (i := 7) (own := [("_law_each", 8)]) rfl sc__law_right.nd rfl rfl (sw_true rfl rfl rfl (by decide +kernel)) (pdi_val (pd_lst (pda_cons (pd_var (pv 5)) (pda_cons (pd_bin (o_add (o_sel (o_cc T.sf_Form T.o_Form_add (ok_Form___add__ T) (hr.mono (by decide)) T.b_Form___add__ passL) (o_sel (o_ci T.sf_Form T.o_Form_add (ok_Form___add__ T) (hr.mono (by decide)) T.b_Form___add__ passL T.nr_Form_add (.inl rfl) T.i1_Form_add T.i2_Form_add T.int_Form) o_no))) (pd_var (pv 5)) (pd_var (pv 6))) (pda_cons (pd_bin (o_sub (o_sel (o_cc T.sf_Form T.o_Form_sub (ok_Form___sub__ T) (hr.mono (by decide)) T.b_Form___sub__ passL) (o_sel (o_ci T.sf_Form T.o_Form_sub (ok_Form___sub__ T) (hr.mono (by decide)) T.b_Form___sub__ passL T.nr_Form_sub (.inl rfl) T.i1_Form_sub T.i2_Form_sub T.int_Form) o_no))) (pd_var (pv 5)) (pd_var (pv 6))) (pda_cons (pd_bin (o_mul (o_sel (o_ci T.sf_Form T.o_Form_mul (ok_Form___mul__ T) (hr.mono (by decide)) T.b_Form___mul__ passL T.nr_Form_mul (.inl rfl) T.i1_Form_mul T.i2_Form_mul T.int_Form) o_no)) (pd_var (pv 5)) (pd_var (pv 4))) pda_nil)))))) (blkOk_by (own := [("_law_each", 8)]) (N := nm__law_right) (sc := defScope st__law_right) (by decide +kernel)) (fun _ _ _ _ _ => (pdg_name (pg_name (i := 8) sc__law_right.nd rfl (by first | exact Or.inl rfl | exact Or.inr rfl)))) (fun _ _ _ _ _ => pdts_nil) (fun _ _ _ _ _ => (pd_call hl__law_shown (ok__law_shown T) (hr.mono (by decide)) rfl T.g__law_shown T.kp__law_shown T.b__law_shown passL (pda_cons (pd_var (pv 8)) pda_nil)))) (fun _ => by decide))
  (pdss_cons (pds_set (i := 7) sc__law_right.nd rfl (by first | exact Or.inl rfl | exact Or.inr rfl) (pd_bin (o_add (o_sel (o_cc T.sf_Form T.o_Form_add (ok_Form___add__ T) (hr.mono (by decide)) T.b_Form___add__ passL) (o_sel (o_ci T.sf_Form T.o_Form_add (ok_Form___add__ T) (hr.mono (by decide)) T.b_Form___add__ passL T.nr_Form_add (.inl rfl) T.i1_Form_add T.i2_Form_add T.int_Form) o_no))) (pd_var (pv 7)) (pd_lc (by decide) (pe_lc (own := [("_law_each", 8)]) rfl sc__law_right.nd (pdi_val (pd_lst (pda_cons (pd_un (o_neg (o_sel1 (o_negC T.o_Form_neg (ok_Form___neg__ T) (hr.mono (by decide)) T.b_Form___neg__ passL) o_no1)) (pd_var (pv 5))) (pda_cons (pd_bin (o_add (o_sel (o_cc T.sf_Form T.o_Form_add (ok_Form___add__ T) (hr.mono (by decide)) T.b_Form___add__ passL) (o_sel (o_ci T.sf_Form T.o_Form_add (ok_Form___add__ T) (hr.mono (by decide)) T.b_Form___add__ passL T.nr_Form_add (.inl rfl) T.i1_Form_add T.i2_Form_add T.int_Form) o_no))) (pd_var (pv 5)) (pd_var (pv 4))) (pda_cons (pd_bin (o_sub (o_sel (o_cc T.sf_Form T.o_Form_sub (ok_Form___sub__ T) (hr.mono (by decide)) T.b_Form___sub__ passL) (o_sel (o_ci T.sf_Form T.o_Form_sub (ok_Form___sub__ T) (hr.mono (by decide)) T.b_Form___sub__ passL T.nr_Form_sub (.inl rfl) T.i1_Form_sub T.i2_Form_sub T.int_Form) o_no))) (pd_var (pv 5)) (pd_var (pv 4))) pda_nil))))) (blkOk_by (own := [("_law_each", 8)]) (N := nm__law_right) (sc := defScope st__law_right) (by decide +kernel)) (fun _ _ _ _ _ => (pdg_name (pg_name (i := 8) sc__law_right.nd rfl (by first | exact Or.inl rfl | exact Or.inr rfl)))) (fun _ _ _ _ _ => pdts_nil) (fun _ _ _ _ _ => (pd_call hl__law_shown (ok__law_shown T) (hr.mono (by decide)) rfl T.g__law_shown T.kp__law_shown T.b__law_shown passL (pda_cons (pd_var (pv 8)) pda_nil)))))) (fun _ => by decide))
  (pdss_cons (pds_set (i := 9) sc__law_right.nd rfl (by first | exact Or.inl rfl | exact Or.inr rfl) (pd_lst (pda_cons (pd_call hl__law_due (ok__law_due T) (hr.mono (by decide)) rfl T.g__law_due T.kp__law_due T.b__law_due passL (pda_cons (pd_borix hr.units1 (pv 2) pd_int (fun _ _ => rfl)) (pda_cons (pd_borix hr.units1 (pv 2) pd_int (fun _ _ => rfl)) pda_nil))) pda_nil)) (fun _ => by decide))
  (pdss_cons (pds_expr (pd_append (pv 9) (pda_cons (pd_call hl__law_due (ok__law_due T) (hr.mono (by decide)) rfl T.g__law_due T.kp__law_due T.b__law_due passL (pda_cons (pd_bin (o_add (o_sel (o_cc T.sf_Form T.o_Form_add (ok_Form___add__ T) (hr.mono (by decide)) T.b_Form___add__ passL) (o_sel (o_ci T.sf_Form T.o_Form_add (ok_Form___add__ T) (hr.mono (by decide)) T.b_Form___add__ passL T.nr_Form_add (.inl rfl) T.i1_Form_add T.i2_Form_add T.int_Form) o_no))) (pd_borix hr.units1 (pv 2) pd_int (fun _ _ => rfl)) (pd_borix hr.units1 (pv 3) pd_int (fun _ _ => rfl))) (pda_cons (pd_call hl__law_added (ok__law_added T) (hr.mono (by decide)) rfl T.g__law_added T.kp__law_added T.b__law_added passL (pda_cons (pd_borix hr.units1 (pv 2) pd_int (fun _ _ => rfl)) (pda_cons (pd_borix hr.units1 (pv 3) pd_int (fun _ _ => rfl)) (pda_cons pd_int pda_nil)))) pda_nil))) pda_nil) (fun h => pe_bm PySem.F.plainAttrs_list PySem.F.slot_list_append PySem.F.type_list_append h (pv 9) (pda_cons (pd_call hl__law_due (ok__law_due T) (hr.mono (by decide)) rfl T.g__law_due T.kp__law_due T.b__law_due passL (pda_cons (pd_bin (o_add (o_sel (o_cc T.sf_Form T.o_Form_add (ok_Form___add__ T) (hr.mono (by decide)) T.b_Form___add__ passL) (o_sel (o_ci T.sf_Form T.o_Form_add (ok_Form___add__ T) (hr.mono (by decide)) T.b_Form___add__ passL T.nr_Form_add (.inl rfl) T.i1_Form_add T.i2_Form_add T.int_Form) o_no))) (pd_borix hr.units1 (pv 2) pd_int (fun _ _ => rfl)) (pd_borix hr.units1 (pv 3) pd_int (fun _ _ => rfl))) (pda_cons (pd_call hl__law_added (ok__law_added T) (hr.mono (by decide)) rfl T.g__law_added T.kp__law_added T.b__law_added passL (pda_cons (pd_borix hr.units1 (pv 2) pd_int (fun _ _ => rfl)) (pda_cons (pd_borix hr.units1 (pv 3) pd_int (fun _ _ => rfl)) (pda_cons pd_int pda_nil)))) pda_nil))) pda_nil))))
  (pdss_cons (pds_set (i := 9) sc__law_right.nd rfl (by first | exact Or.inl rfl | exact Or.inr rfl) (pd_bin (o_add (o_sel (o_cc T.sf_Form T.o_Form_add (ok_Form___add__ T) (hr.mono (by decide)) T.b_Form___add__ passL) (o_sel (o_ci T.sf_Form T.o_Form_add (ok_Form___add__ T) (hr.mono (by decide)) T.b_Form___add__ passL T.nr_Form_add (.inl rfl) T.i1_Form_add T.i2_Form_add T.int_Form) o_no))) (pd_var (pv 9)) (pd_lst (pda_cons (pd_call hl__law_due (ok__law_due T) (hr.mono (by decide)) rfl T.g__law_due T.kp__law_due T.b__law_due passL (pda_cons (pd_bin (o_sub (o_sel (o_cc T.sf_Form T.o_Form_sub (ok_Form___sub__ T) (hr.mono (by decide)) T.b_Form___sub__ passL) (o_sel (o_ci T.sf_Form T.o_Form_sub (ok_Form___sub__ T) (hr.mono (by decide)) T.b_Form___sub__ passL T.nr_Form_sub (.inl rfl) T.i1_Form_sub T.i2_Form_sub T.int_Form) o_no))) (pd_borix hr.units1 (pv 2) pd_int (fun _ _ => rfl)) (pd_borix hr.units1 (pv 3) pd_int (fun _ _ => rfl))) (pda_cons (pd_call hl__law_added (ok__law_added T) (hr.mono (by decide)) rfl T.g__law_added T.kp__law_added T.b__law_added passL (pda_cons (pd_borix hr.units1 (pv 2) pd_int (fun _ _ => rfl)) (pda_cons (pd_borix hr.units1 (pv 3) pd_int (fun _ _ => rfl)) (pda_cons (pd_bin (o_sub (o_sel (o_cc T.sf_Form T.o_Form_sub (ok_Form___sub__ T) (hr.mono (by decide)) T.b_Form___sub__ passL) (o_sel (o_ci T.sf_Form T.o_Form_sub (ok_Form___sub__ T) (hr.mono (by decide)) T.b_Form___sub__ passL T.nr_Form_sub (.inl rfl) T.i1_Form_sub T.i2_Form_sub T.int_Form) o_no))) pd_int pd_int) pda_nil)))) pda_nil))) pda_nil))) (fun _ => by decide))
  (pdss_cons (pds_expr (pd_append (pv 9) (pda_cons (pd_call hl__law_due (ok__law_due T) (hr.mono (by decide)) rfl T.g__law_due T.kp__law_due T.b__law_due passL (pda_cons (pd_bin (o_mul (o_sel (o_ci T.sf_Form T.o_Form_mul (ok_Form___mul__ T) (hr.mono (by decide)) T.b_Form___mul__ passL T.nr_Form_mul (.inl rfl) T.i1_Form_mul T.i2_Form_mul T.int_Form) o_no)) (pd_borix hr.units1 (pv 2) pd_int (fun _ _ => rfl)) (pd_var (pv 4))) (pda_cons (pd_call hl__law_added (ok__law_added T) (hr.mono (by decide)) rfl T.g__law_added T.kp__law_added T.b__law_added passL (pda_cons pd_dnew (pda_cons (pd_borix hr.units1 (pv 2) pd_int (fun _ _ => rfl)) (pda_cons (pd_var (pv 4)) pda_nil)))) pda_nil))) pda_nil) (fun h => pe_bm PySem.F.plainAttrs_list PySem.F.slot_list_append PySem.F.type_list_append h (pv 9) (pda_cons (pd_call hl__law_due (ok__law_due T) (hr.mono (by decide)) rfl T.g__law_due T.kp__law_due T.b__law_due passL (pda_cons (pd_bin (o_mul (o_sel (o_ci T.sf_Form T.o_Form_mul (ok_Form___mul__ T) (hr.mono (by decide)) T.b_Form___mul__ passL T.nr_Form_mul (.inl rfl) T.i1_Form_mul T.i2_Form_mul T.int_Form) o_no)) (pd_borix hr.units1 (pv 2) pd_int (fun _ _ => rfl)) (pd_var (pv 4))) (pda_cons (pd_call hl__law_added (ok__law_added T) (hr.mono (by decide)) rfl T.g__law_added T.kp__law_added T.b__law_added passL (pda_cons pd_dnew (pda_cons (pd_borix hr.units1 (pv 2) pd_int (fun _ _ => rfl)) (pda_cons (pd_var (pv 4)) pda_nil)))) pda_nil))) pda_nil))))
  (pdss_cons (pds_expr (pd_append (pv 9) (pda_cons (pd_call hl__law_due (ok__law_due T) (hr.mono (by decide)) rfl T.g__law_due T.kp__law_due T.b__law_due passL (pda_cons (pd_bin (o_sub (o_sel (o_cc T.sf_Form T.o_Form_sub (ok_Form___sub__ T) (hr.mono (by decide)) T.b_Form___sub__ passL) (o_sel (o_ci T.sf_Form T.o_Form_sub (ok_Form___sub__ T) (hr.mono (by decide)) T.b_Form___sub__ passL T.nr_Form_sub (.inl rfl) T.i1_Form_sub T.i2_Form_sub T.int_Form) o_no))) pd_int (pd_borix hr.units1 (pv 2) pd_int (fun _ _ => rfl))) (pda_cons (pd_call hl__law_added (ok__law_added T) (hr.mono (by decide)) rfl T.g__law_added T.kp__law_added T.b__law_added passL (pda_cons pd_dnew (pda_cons (pd_borix hr.units1 (pv 2) pd_int (fun _ _ => rfl)) (pda_cons (pd_bin (o_sub (o_sel (o_cc T.sf_Form T.o_Form_sub (ok_Form___sub__ T) (hr.mono (by decide)) T.b_Form___sub__ passL) (o_sel (o_ci T.sf_Form T.o_Form_sub (ok_Form___sub__ T) (hr.mono (by decide)) T.b_Form___sub__ passL T.nr_Form_sub (.inl rfl) T.i1_Form_sub T.i2_Form_sub T.int_Form) o_no))) pd_int pd_int) pda_nil)))) pda_nil))) pda_nil) (fun h => pe_bm PySem.F.plainAttrs_list PySem.F.slot_list_append PySem.F.type_list_append h (pv 9) (pda_cons (pd_call hl__law_due (ok__law_due T) (hr.mono (by decide)) rfl T.g__law_due T.kp__law_due T.b__law_due passL (pda_cons (pd_bin (o_sub (o_sel (o_cc T.sf_Form T.o_Form_sub (ok_Form___sub__ T) (hr.mono (by decide)) T.b_Form___sub__ passL) (o_sel (o_ci T.sf_Form T.o_Form_sub (ok_Form___sub__ T) (hr.mono (by decide)) T.b_Form___sub__ passL T.nr_Form_sub (.inl rfl) T.i1_Form_sub T.i2_Form_sub T.int_Form) o_no))) pd_int (pd_borix hr.units1 (pv 2) pd_int (fun _ _ => rfl))) (pda_cons (pd_call hl__law_added (ok__law_added T) (hr.mono (by decide)) rfl T.g__law_added T.kp__law_added T.b__law_added passL (pda_cons pd_dnew (pda_cons (pd_borix hr.units1 (pv 2) pd_int (fun _ _ => rfl)) (pda_cons (pd_bin (o_sub (o_sel (o_cc T.sf_Form T.o_Form_sub (ok_Form___sub__ T) (hr.mono (by decide)) T.b_Form___sub__ passL) (o_sel (o_ci T.sf_Form T.o_Form_sub (ok_Form___sub__ T) (hr.mono (by decide)) T.b_Form___sub__ passL T.nr_Form_sub (.inl rfl) T.i1_Form_sub T.i2_Form_sub T.int_Form) o_no))) pd_int pd_int) pda_nil)))) pda_nil))) pda_nil))))
  (pdss_cons (pds_if (pdt_cmp (o_ne hr.units (neOf_sel (o_neC T.kd T.in_Form T.o_Form_eq T.ne_Form T.ob_Form (ok_Form___eq__ T) (hr.mono (by decide)) T.b_Form___eq__ passL) (neOf_sel (o_neC T.kd T.in_Ratio T.o_Ratio_eq T.ne_Ratio T.ob_Ratio (ok_Ratio___eq__ T) (hr.mono (by decide)) T.b_Ratio___eq__ passL) o_noNe))) (pd_var (pv 7)) (pd_bin (o_add (o_sel (o_cc T.sf_Form T.o_Form_add (ok_Form___add__ T) (hr.mono (by decide)) T.b_Form___add__ passL) (o_sel (o_ci T.sf_Form T.o_Form_add (ok_Form___add__ T) (hr.mono (by decide)) T.b_Form___add__ passL T.nr_Form_add (.inl rfl) T.i1_Form_add T.i2_Form_add T.int_Form) o_no))) (pd_var (pv 9)) (pd_lst (pda_cons (pd_call hl__law_due (ok__law_due T) (hr.mono (by decide)) rfl T.g__law_due T.kp__law_due T.b__law_due passL (pda_cons (pd_bin (o_add (o_sel (o_cc T.sf_Form T.o_Form_add (ok_Form___add__ T) (hr.mono (by decide)) T.b_Form___add__ passL) (o_sel (o_ci T.sf_Form T.o_Form_add (ok_Form___add__ T) (hr.mono (by decide)) T.b_Form___add__ passL T.nr_Form_add (.inl rfl) T.i1_Form_add T.i2_Form_add T.int_Form) o_no))) (pd_borix hr.units1 (pv 2) pd_int (fun _ _ => rfl)) (pd_var (pv 4))) (pda_cons (pd_borix hr.units1 (pv 2) pd_int (fun _ _ => rfl)) pda_nil))) (pda_cons (pd_call hl__law_due (ok__law_due T) (hr.mono (by decide)) rfl T.g__law_due T.kp__law_due T.b__law_due passL (pda_cons (pd_bin (o_sub (o_sel (o_cc T.sf_Form T.o_Form_sub (ok_Form___sub__ T) (hr.mono (by decide)) T.b_Form___sub__ passL) (o_sel (o_ci T.sf_Form T.o_Form_sub (ok_Form___sub__ T) (hr.mono (by decide)) T.b_Form___sub__ passL T.nr_Form_sub (.inl rfl) T.i1_Form_sub T.i2_Form_sub T.int_Form) o_no))) (pd_borix hr.units1 (pv 2) pd_int (fun _ _ => rfl)) (pd_var (pv 4))) (pda_cons (pd_borix hr.units1 (pv 2) pd_int (fun _ _ => rfl)) pda_nil))) pda_nil)))) (nomark _)) (pdss_one (pds_ret pd_bl)) pdss_nil)
  (pdss_cons (pds_set (i := 10) sc__law_right.nd rfl (by first | exact Or.inl rfl | exact Or.inr rfl) (pd_cmp (o_eq hr.units (o_sel (o_eqC T.kd T.in_Form T.o_Form_eq (ok_Form___eq__ T) (hr.mono (by decide)) T.b_Form___eq__ passL) (o_sel (o_eqC T.kd T.in_Ratio T.o_Ratio_eq (ok_Ratio___eq__ T) (hr.mono (by decide)) T.b_Ratio___eq__ passL) o_no))) (pd_call hl__law_due (ok__law_due T) (hr.mono (by decide)) rfl T.g__law_due T.kp__law_due T.b__law_due passL (pda_cons (pd_borix hr.units1 (pv 2) pd_int (fun _ _ => rfl)) (pda_cons (pd_borix hr.units1 (pv 2) pd_int (fun _ _ => rfl)) pda_nil))) (pd_call hl__law_due (ok__law_due T) (hr.mono (by decide)) rfl T.g__law_due T.kp__law_due T.b__law_due passL (pda_cons (pd_borix hr.units1 (pv 3) pd_int (fun _ _ => rfl)) (pda_cons (pd_borix hr.units1 (pv 3) pd_int (fun _ _ => rfl)) pda_nil))) (nomark _)) (fun _ => by decide))
  (pdss_cons (pds_if (pdt_w (pdw_or (pdt_cmp (o_ne hr.units (neOf_sel (o_neC T.kd T.in_Form T.o_Form_eq T.ne_Form T.ob_Form (ok_Form___eq__ T) (hr.mono (by decide)) T.b_Form___eq__ passL) (neOf_sel (o_neC T.kd T.in_Ratio T.o_Ratio_eq T.ne_Ratio T.ob_Ratio (ok_Ratio___eq__ T) (hr.mono (by decide)) T.b_Ratio___eq__ passL) o_noNe))) (pd_cmp (o_eq hr.units (o_sel (o_eqC T.kd T.in_Form T.o_Form_eq (ok_Form___eq__ T) (hr.mono (by decide)) T.b_Form___eq__ passL) (o_sel (o_eqC T.kd T.in_Ratio T.o_Ratio_eq (ok_Ratio___eq__ T) (hr.mono (by decide)) T.b_Ratio___eq__ passL) o_no))) (pd_var (pv 5)) (pd_var (pv 6)) (nomark _)) (pd_var (pv 10)) (nomark _)) (pdw_or1 (pdt_cmp (o_eq hr.units (o_sel (o_eqC T.kd T.in_Form T.o_Form_eq (ok_Form___eq__ T) (hr.mono (by decide)) T.b_Form___eq__ passL) (o_sel (o_eqC T.kd T.in_Ratio T.o_Ratio_eq (ok_Ratio___eq__ T) (hr.mono (by decide)) T.b_Ratio___eq__ passL) o_no))) (pd_var (pv 5)) (pd_borix hr.units1 (pv 2) pd_int (fun _ _ => rfl)) (nomark _))))) (pdss_one (pds_ret pd_bl)) pdss_nil)
  (pdss_cons (pds_par (i := 11) (k := 12) rfl sc__law_right.nd rfl rfl (by decide) rfl rfl pd_dnew (pd_bin (o_mul (o_sel (o_ci T.sf_Form T.o_Form_mul (ok_Form___mul__ T) (hr.mono (by decide)) T.b_Form___mul__ passL T.nr_Form_mul (.inl rfl) T.i1_Form_mul T.i2_Form_mul T.int_Form) o_no)) pd_int (pd_borix hr.units1 (pv 2) pd_int (fun _ _ => rfl))) (fun _ => by decide) (by rfl))
  (pdss_cons (pds_for pO rfl (pdi_val (pd_str (by decide +kernel))) (pdg_name (pg_name (i := 8) sc__law_right.nd rfl (by first | exact Or.inl rfl | exact Or.inr rfl))) (pdss_cons (pds_set (i := 13) sc__law_right.nd rfl (by first | exact Or.inl rfl | exact Or.inr rfl) (pd_callR (ok__law_one T) rfl rfl (hr.mono (by decide)) rfl T.g__law_one T.kp__law_one T.b__law_one passL (par_nil (pv 0) (pda_cons (pd_lst (pda_cons pd_int (pda_cons pd_int (pda_cons (pd_callR (ok__law_draw T) rfl rfl (hr.mono (by decide)) rfl T.g__law_draw T.kp__law_draw T.b__law_draw passL (par_nil (pv 0) (pda_cons pd_int pda_nil))) pda_nil)))) pda_nil))) (fun _ => by decide))
  (pdss_cons (pds_put hr.units1 (pv 11) (pd_var (pv 8)) (pd_if (pdt_cmp (o_eq hr.units (o_sel (o_eqC T.kd T.in_Form T.o_Form_eq (ok_Form___eq__ T) (hr.mono (by decide)) T.b_Form___eq__ passL) (o_sel (o_eqC T.kd T.in_Ratio T.o_Ratio_eq (ok_Ratio___eq__ T) (hr.mono (by decide)) T.b_Ratio___eq__ passL) o_no))) (pd_bin o_mod (pd_callTy o_int (by rfl) T.n_int (by decide +kernel) (pda_cons (pd_var (pv 13)) pda_nil)) pd_int) pd_int (nomark _)) (pd_bin o_fdiv (pd_var (pv 13)) pd_int) (pd_make T.in_Ratio hi_Ratio___init__ (fun _ => .nil) T.mk_Ratio (ok_Ratio___init__ T) (hr.mono (by decide)) rfl T.g_Ratio T.b_Ratio___init__ .nil passL (pda_cons (pd_var (pv 13)) (pda_cons pd_int pda_nil)))))
  (pdss_one (pds_set (i := 12) sc__law_right.nd rfl (by first | exact Or.inl rfl | exact Or.inr rfl) (pd_bin (o_add (o_sel (o_cc T.sf_Form T.o_Form_add (ok_Form___add__ T) (hr.mono (by decide)) T.b_Form___add__ passL) (o_sel (o_ci T.sf_Form T.o_Form_add (ok_Form___add__ T) (hr.mono (by decide)) T.b_Form___add__ passL T.nr_Form_add (.inl rfl) T.i1_Form_add T.i2_Form_add T.int_Form) o_no))) (pd_var (pv 12)) (pd_bin (o_mul (o_sel (o_ci T.sf_Form T.o_Form_mul (ok_Form___mul__ T) (hr.mono (by decide)) T.b_Form___mul__ passL T.nr_Form_mul (.inl rfl) T.i1_Form_mul T.i2_Form_mul T.int_Form) o_no)) (pd_var (pv 13)) (pd_get hr.units1 (pd_borix hr.units1 (pv 2) pd_int (fun _ _ => rfl)) (pd_var (pv 8)) pd_int ⟨rfl, rfl, rfl, rfl⟩))) (fun _ => by decide))))))
  (pdss_one (pds_if (pdt_w (pdw_or (pdt_cmp (o_ne hr.units (neOf_sel (o_neC T.kd T.in_Form T.o_Form_eq T.ne_Form T.ob_Form (ok_Form___eq__ T) (hr.mono (by decide)) T.b_Form___eq__ passL) (neOf_sel (o_neC T.kd T.in_Ratio T.o_Ratio_eq T.ne_Ratio T.ob_Ratio (ok_Ratio___eq__ T) (hr.mono (by decide)) T.b_Ratio___eq__ passL) o_noNe))) (PE.imp (pe_meth (pd_var (pv 5)) T.cl_Form T.m_Form_at (ok_Form_at T) (hr.mono (by decide)) T.b_Form_at .nil passL (pda_cons (pd_var (pv 11)) pda_nil)) fun _ _ _ h => meth_use T.nm_Form_at hl_Form_at h) (pd_make T.in_Ratio hi_Ratio___init__ (fun _ => .nil) T.mk_Ratio (ok_Ratio___init__ T) (hr.mono (by decide)) rfl T.g_Ratio T.b_Ratio___init__ .nil passL (pda_cons (pd_var (pv 12)) (pda_cons pd_int pda_nil))) (nomark _)) (pdw_or1 (pdt_cmp (o_ne hr.units (neOf_sel (o_neC T.kd T.in_Form T.o_Form_eq T.ne_Form T.ob_Form (ok_Form___eq__ T) (hr.mono (by decide)) T.b_Form___eq__ passL) (neOf_sel (o_neC T.kd T.in_Ratio T.o_Ratio_eq T.ne_Ratio T.ob_Ratio (ok_Ratio___eq__ T) (hr.mono (by decide)) T.b_Ratio___eq__ passL) o_noNe))) (PE.imp (SL.pe_methK0 (pd_var (pv 5)) T.cl_Form T.m_Form_at (ok_Form_at T) (hr.mono (by decide)) (T.kb_Form_at_0_lengths).choose_spec passL (pdk_cons (pd_var (pv 11)) pdk_nil)) fun _ _ _ h => methK_use0 T.nm_Form_at hl_Form_at (prm_gv _) rfl h) (pd_make T.in_Ratio hi_Ratio___init__ (fun _ => .nil) T.mk_Ratio (ok_Ratio___init__ T) (hr.mono (by decide)) rfl T.g_Ratio T.b_Ratio___init__ .nil passL (pda_cons (pd_var (pv 12)) (pda_cons pd_int pda_nil))) (nomark _))))) (pdss_one (pds_ret pd_bl)) pdss_nil)))))))))))))))))))
  (pdss_one (pds_ret (pd_and (pd_cmp (o_eq hr.units (o_sel (o_eqC T.kd T.in_Form T.o_Form_eq (ok_Form___eq__ T) (hr.mono (by decide)) T.b_Form___eq__ passL) (o_sel (o_eqC T.kd T.in_Ratio T.o_Ratio_eq (ok_Ratio___eq__ T) (hr.mono (by decide)) T.b_Ratio___eq__ passL) o_no))) (pd_make0 T.in_Form hi_Form___init__ (fun _ => (.cons (.int 0) (.cons T.emp .nil))) T.mk_Form (ok_Form___init__ T) (hr.mono (by decide)) rfl T.g_Form (T.bd_Form___init___2).choose_spec.2 (T.bd_Form___init___2).choose_spec.1 passL) (pd_make T.in_Form hi_Form___init__ (fun _ => .nil) T.mk_Form (ok_Form___init__ T) (hr.mono (by decide)) rfl T.g_Form T.b_Form___init__ .nil passL (pda_cons pd_int (pda_cons (pd_tup pda_nil) pda_nil))) (nomark _)) (pd_and (pd_cmp (o_ne hr.units (neOf_sel (o_neC T.kd T.in_Form T.o_Form_eq T.ne_Form T.ob_Form (ok_Form___eq__ T) (hr.mono (by decide)) T.b_Form___eq__ passL) (neOf_sel (o_neC T.kd T.in_Ratio T.o_Ratio_eq T.ne_Ratio T.ob_Ratio (ok_Ratio___eq__ T) (hr.mono (by decide)) T.b_Ratio___eq__ passL) o_noNe))) (pd_make T.in_Form hi_Form___init__ (fun _ => (.cons T.emp .nil)) T.mk_Form (ok_Form___init__ T) (hr.mono (by decide)) rfl T.g_Form (T.bd_Form___init___1).choose_spec.2 (T.bd_Form___init___1).choose_spec.1 passL (pda_cons pd_int pda_nil)) (pd_make T.in_Form hi_Form___init__ (fun _ => (.cons T.emp .nil)) T.mk_Form (ok_Form___init__ T) (hr.mono (by decide)) rfl T.g_Form (T.bd_Form___init___1).choose_spec.2 (T.bd_Form___init___1).choose_spec.1 passL (pda_cons pd_int pda_nil)) (nomark _)) (pd_one (pd_not (pd_cmp (o_eq hr.units (o_sel (o_eqC T.kd T.in_Form T.o_Form_eq (ok_Form___eq__ T) (hr.mono (by decide)) T.b_Form___eq__ passL) (o_sel (o_eqC T.kd T.in_Ratio T.o_Ratio_eq (ok_Ratio___eq__ T) (hr.mono (by decide)) T.b_Ratio___eq__ passL) o_no))) (pd_make T.in_Form hi_Form___init__ (fun _ => (.cons T.emp .nil)) T.mk_Form (ok_Form___init__ T) (hr.mono (by decide)) rfl T.g_Form (T.bd_Form___init___1).choose_spec.2 (T.bd_Form___init___1).choose_spec.1 passL (pda_cons pd_int pda_nil)) pd_int (nomark _))))))))))), enter_R (p := 1) rfl (by decide) (by rw [q__law_right] at h; exact h)⟩
theorem ok_law (T : Txt K mg A x) : FnOk P w K mg base (L2.CX P w) 18 x.f_law x.d_law ["_law_cells"] (sp_law K) := by
  refine T.F_law.okX sc_law (fun vs H Q E h => by obtain ⟨_, _, rfl, _⟩ := h; rfl) (fun cdv Ar outer s H vs Q E hr h => ?_)
  exact ⟨liftS K A none mm_law, (by unfold mm_law; exact ((pdss_one (pds_ret (pd_callB (o_all rfl) (by rfl) T.n_all (by decide +kernel) (pda_cons (pd_lc (by decide) (pe_lc (own := [("_law_k", 1)]) rfl sc_law.nd (pdi_range1 (by rfl) T.n_range (pda_cons (pd_callB (o_max rfl) (by rfl) T.n_max (by decide +kernel) (pda_cons pd_int (pda_cons (pd_callB (o_min rfl) (by rfl) T.n_min (by decide +kernel) (pda_cons (PE.imp (pe_callB (o_lenb o_noN) (by rfl) T.n_len (by decide +kernel) (pa_cons (pv 0) pa_nil)) fun _ _ _ => bor1_use (nf_len nf_no1)) (pda_cons pd_int pda_nil))) pda_nil))) pda_nil)) (blkOk_by (own := [("_law_k", 1)]) (N := nm_law) (sc := defScope st_law) (by decide +kernel)) (fun _ _ _ _ _ => (pdg_name (pg_name (i := 1) sc_law.nd rfl (by first | exact Or.inl rfl | exact Or.inr rfl)))) (fun _ _ _ _ _ => pdts_nil) (fun _ _ _ _ _ => (pd_callT (ok__law_right T) rfl rfl (hr.mono (by decide)) rfl T.g__law_right T.kp__law_right T.b__law_right passL (pat_nil (pd_call hl__law_bag (ok__law_bag T) (hr.mono (by decide)) rfl T.g__law_bag T.kp__law_bag T.b__law_bag passL (pda_cons (pd_var (pv 0)) (pda_cons (pd_var (pv 1)) pda_nil)))))))) pda_nil)))))), enter_F (p := 1) rfl (by decide) (by have h := sp_of (A := A) law_true h; rw [q_law] at h; exact h)⟩
end
/-! ### what the top has written, gathered -/
theorem all_mk {l : PySem.W.OpenLaw} {w : World} {K : PySem.W.Frag} {h : Heap} {mg : Str → Option Value} {fa : Addr} (X : K.In h) (G : h.Ns mainGlobals mg) (hfa : mg "law" = some (.ref fa))
    {C_Form : Addr}
    {C_Ratio : Addr}
    {f__law_bag : Addr} {od__law_bag an__law_bag : Option Addr} {sl__law_bag : Array (Option Value)} {oc__law_bag kV__law_bag dc__law_bag pm__law_bag cd__law_bag ct__law_bag : Value}
    {f_are_small : Addr} {od_are_small an_are_small : Option Addr} {sl_are_small : Array (Option Value)} {oc_are_small kV_are_small dc_are_small pm_are_small cd_are_small ct_are_small : Value}
    {f_is_integer : Addr} {od_is_integer an_is_integer : Option Addr} {sl_is_integer : Array (Option Value)} {oc_is_integer kV_is_integer dc_is_integer pm_is_integer cd_is_integer ct_is_integer : Value}
    {f_are_terms : Addr} {od_are_terms an_are_terms : Option Addr} {sl_are_terms : Array (Option Value)} {oc_are_terms kV_are_terms dc_are_terms pm_are_terms cd_are_terms ct_are_terms : Value}
    {f_Form___init__ : Addr} {od_Form___init__ an_Form___init__ : Option Addr} {sl_Form___init__ : Array (Option Value)} {oc_Form___init__ kV_Form___init__ dc_Form___init__ pm_Form___init__ cd_Form___init__ ct_Form___init__ : Value}
    {dt_Form___init__ : Addr} {to_Form___init__ : Value} {td_Form___init__ : Option Addr} {tn_Form___init__ : Nat} {ts_Form___init__ : Array (Option Value)} {tv_Form___init__ : Array Value}
    {f_form_of : Addr} {od_form_of an_form_of : Option Addr} {sl_form_of : Array (Option Value)} {oc_form_of kV_form_of dc_form_of pm_form_of cd_form_of ct_form_of : Value}
    {f_Form___add__ : Addr} {od_Form___add__ an_Form___add__ : Option Addr} {sl_Form___add__ : Array (Option Value)} {oc_Form___add__ kV_Form___add__ dc_Form___add__ pm_Form___add__ cd_Form___add__ ct_Form___add__ : Value}
    {f_Form___eq__ : Addr} {od_Form___eq__ an_Form___eq__ : Option Addr} {sl_Form___eq__ : Array (Option Value)} {oc_Form___eq__ kV_Form___eq__ dc_Form___eq__ pm_Form___eq__ cd_Form___eq__ ct_Form___eq__ : Value}
    {f_Form___mul__ : Addr} {od_Form___mul__ an_Form___mul__ : Option Addr} {sl_Form___mul__ : Array (Option Value)} {oc_Form___mul__ kV_Form___mul__ dc_Form___mul__ pm_Form___mul__ cd_Form___mul__ ct_Form___mul__ : Value}
    {f_Form___neg__ : Addr} {od_Form___neg__ an_Form___neg__ : Option Addr} {sl_Form___neg__ : Array (Option Value)} {oc_Form___neg__ kV_Form___neg__ dc_Form___neg__ pm_Form___neg__ cd_Form___neg__ ct_Form___neg__ : Value}
    {f_Form___sub__ : Addr} {od_Form___sub__ an_Form___sub__ : Option Addr} {sl_Form___sub__ : Array (Option Value)} {oc_Form___sub__ kV_Form___sub__ dc_Form___sub__ pm_Form___sub__ cd_Form___sub__ ct_Form___sub__ : Value}
    {f_shared_factor : Addr} {od_shared_factor an_shared_factor : Option Addr} {sl_shared_factor : Array (Option Value)} {oc_shared_factor kV_shared_factor dc_shared_factor pm_shared_factor cd_shared_factor ct_shared_factor : Value}
    {f_Ratio___init__ : Addr} {od_Ratio___init__ an_Ratio___init__ : Option Addr} {sl_Ratio___init__ : Array (Option Value)} {oc_Ratio___init__ kV_Ratio___init__ dc_Ratio___init__ pm_Ratio___init__ cd_Ratio___init__ ct_Ratio___init__ : Value}
    {dt_Ratio___init__ : Addr} {to_Ratio___init__ : Value} {td_Ratio___init__ : Option Addr} {tn_Ratio___init__ : Nat} {ts_Ratio___init__ : Array (Option Value)} {tv_Ratio___init__ : Array Value}
    {f_as_ratio : Addr} {od_as_ratio an_as_ratio : Option Addr} {sl_as_ratio : Array (Option Value)} {oc_as_ratio kV_as_ratio dc_as_ratio pm_as_ratio cd_as_ratio ct_as_ratio : Value}
    {f_compared : Addr} {od_compared an_compared : Option Addr} {sl_compared : Array (Option Value)} {oc_compared kV_compared dc_compared pm_compared cd_compared ct_compared : Value}
    {f_is_above : Addr} {od_is_above an_is_above : Option Addr} {sl_is_above : Array (Option Value)} {oc_is_above kV_is_above dc_is_above pm_is_above cd_is_above ct_is_above : Value}
    {f_is_fraction : Addr} {od_is_fraction an_is_fraction : Option Addr} {sl_is_fraction : Array (Option Value)} {oc_is_fraction kV_is_fraction dc_is_fraction pm_is_fraction cd_is_fraction ct_is_fraction : Value}
    {f_are_lengths : Addr} {od_are_lengths an_are_lengths : Option Addr} {sl_are_lengths : Array (Option Value)} {oc_are_lengths kV_are_lengths dc_are_lengths pm_are_lengths cd_are_lengths ct_are_lengths : Value}
    {f_Ratio___add__ : Addr} {od_Ratio___add__ an_Ratio___add__ : Option Addr} {sl_Ratio___add__ : Array (Option Value)} {oc_Ratio___add__ kV_Ratio___add__ dc_Ratio___add__ pm_Ratio___add__ cd_Ratio___add__ ct_Ratio___add__ : Value}
    {f_Ratio___mul__ : Addr} {od_Ratio___mul__ an_Ratio___mul__ : Option Addr} {sl_Ratio___mul__ : Array (Option Value)} {oc_Ratio___mul__ kV_Ratio___mul__ dc_Ratio___mul__ pm_Ratio___mul__ cd_Ratio___mul__ ct_Ratio___mul__ : Value}
    {f_Ratio___rmul__ : Addr} {od_Ratio___rmul__ an_Ratio___rmul__ : Option Addr} {sl_Ratio___rmul__ : Array (Option Value)} {oc_Ratio___rmul__ kV_Ratio___rmul__ dc_Ratio___rmul__ pm_Ratio___rmul__ cd_Ratio___rmul__ ct_Ratio___rmul__ : Value}
    {f_worth : Addr} {od_worth an_worth : Option Addr} {sl_worth : Array (Option Value)} {oc_worth kV_worth dc_worth pm_worth cd_worth ct_worth : Value}
    {f_Form_at : Addr} {od_Form_at an_Form_at : Option Addr} {sl_Form_at : Array (Option Value)} {oc_Form_at kV_Form_at dc_Form_at pm_Form_at cd_Form_at ct_Form_at : Value}
    {f_Ratio___eq__ : Addr} {od_Ratio___eq__ an_Ratio___eq__ : Option Addr} {sl_Ratio___eq__ : Array (Option Value)} {oc_Ratio___eq__ kV_Ratio___eq__ dc_Ratio___eq__ pm_Ratio___eq__ cd_Ratio___eq__ ct_Ratio___eq__ : Value}
    {f__law_added : Addr} {od__law_added an__law_added : Option Addr} {sl__law_added : Array (Option Value)} {oc__law_added kV__law_added dc__law_added pm__law_added cd__law_added ct__law_added : Value}
    {f__law_draw : Addr} {od__law_draw an__law_draw : Option Addr} {sl__law_draw : Array (Option Value)} {oc__law_draw kV__law_draw dc__law_draw pm__law_draw cd__law_draw ct__law_draw : Value}
    {f__law_one : Addr} {od__law_one an__law_one : Option Addr} {sl__law_one : Array (Option Value)} {oc__law_one kV__law_one dc__law_one pm__law_one cd__law_one ct__law_one : Value}
    {f__law_drawn : Addr} {od__law_drawn an__law_drawn : Option Addr} {sl__law_drawn : Array (Option Value)} {oc__law_drawn kV__law_drawn dc__law_drawn pm__law_drawn cd__law_drawn ct__law_drawn : Value}
    {f__law_pairs : Addr} {od__law_pairs an__law_pairs : Option Addr} {sl__law_pairs : Array (Option Value)} {oc__law_pairs kV__law_pairs dc__law_pairs pm__law_pairs cd__law_pairs ct__law_pairs : Value}
    {f__law_due : Addr} {od__law_due an__law_due : Option Addr} {sl__law_due : Array (Option Value)} {oc__law_due kV__law_due dc__law_due pm__law_due cd__law_due ct__law_due : Value}
    {f__law_shown : Addr} {od__law_shown an__law_shown : Option Addr} {sl__law_shown : Array (Option Value)} {oc__law_shown kV__law_shown dc__law_shown pm__law_shown cd__law_shown ct__law_shown : Value}
    {f__law_right : Addr} {od__law_right an__law_right : Option Addr} {sl__law_right : Array (Option Value)} {oc__law_right kV__law_right dc__law_right pm__law_right cd__law_right ct__law_right : Value}
    {f_law : Addr} {od_law an_law : Option Addr} {sl_law : Array (Option Value)} {oc_law kV_law dc_law pm_law cd_law ct_law : Value}
    {e_emp : Addr} {eo_emp : Obj} {en_emp : Nat}
    {fo_Form_add ro_Form_add : Option Value}
    {fo_Form_mul ro_Form_mul : Option Value}
    {fo_Form_sub ro_Form_sub : Option Value}
    {fo_Ratio_add ro_Ratio_add : Option Value}
    {fo_Ratio_mul ro_Ratio_mul : Option Value}
    (aC_Form : PySem.W.nsIn K mainGlobals "Form" = some (some (.ref C_Form)))
    (aC_Ratio : PySem.W.nsIn K mainGlobals "Ratio" = some (some (.ref C_Ratio)))
    (a__law_bag : PySem.W.nsIn K mainGlobals "_law_bag" = some (some (.ref f__law_bag)))
    (l__law_bag : K.lookup f__law_bag = some ⟨oc__law_bag, od__law_bag, .func (PySem.W.fnOf "_law_bag" "_law_bag" (defArgs st__law_bag) (defBody st__law_bag) (defScope st__law_bag) .none kV__law_bag dc__law_bag pm__law_bag an__law_bag cd__law_bag ct__law_bag), sl__law_bag⟩)
    (c__law_bag : PySem.W.codeIn K cd__law_bag "_law_bag" = true)
    (k__law_bag : PySem.W.keepIn K (.ref f__law_bag) = true)
    (a_are_small : PySem.W.nsIn K mainGlobals "are_small" = some (some (.ref f_are_small)))
    (l_are_small : K.lookup f_are_small = some ⟨oc_are_small, od_are_small, .func (PySem.W.fnOf "are_small" "are_small" (defArgs st_are_small) (defBody st_are_small) (defScope st_are_small) .none kV_are_small dc_are_small pm_are_small an_are_small cd_are_small ct_are_small), sl_are_small⟩)
    (c_are_small : PySem.W.codeIn K cd_are_small "are_small" = true)
    (k_are_small : PySem.W.keepIn K (.ref f_are_small) = true)
    (a_is_integer : PySem.W.nsIn K mainGlobals "is_integer" = some (some (.ref f_is_integer)))
    (l_is_integer : K.lookup f_is_integer = some ⟨oc_is_integer, od_is_integer, .func (PySem.W.fnOf "is_integer" "is_integer" (defArgs st_is_integer) (defBody st_is_integer) (defScope st_is_integer) .none kV_is_integer dc_is_integer pm_is_integer an_is_integer cd_is_integer ct_is_integer), sl_is_integer⟩)
    (c_is_integer : PySem.W.codeIn K cd_is_integer "is_integer" = true)
    (k_is_integer : PySem.W.keepIn K (.ref f_is_integer) = true)
    (a_are_terms : PySem.W.nsIn K mainGlobals "are_terms" = some (some (.ref f_are_terms)))
    (l_are_terms : K.lookup f_are_terms = some ⟨oc_are_terms, od_are_terms, .func (PySem.W.fnOf "are_terms" "are_terms" (defArgs st_are_terms) (defBody st_are_terms) (defScope st_are_terms) .none kV_are_terms dc_are_terms pm_are_terms an_are_terms cd_are_terms ct_are_terms), sl_are_terms⟩)
    (c_are_terms : PySem.W.codeIn K cd_are_terms "are_terms" = true)
    (k_are_terms : PySem.W.keepIn K (.ref f_are_terms) = true)
    (a_Form___init__ : PySem.W.findIn K (.ref C_Form) "__init__" = some (some (.ref f_Form___init__)))
    (i_Form___init__ : PySem.W.isFn K (.ref f_Form___init__) = true)
    (l_Form___init__ : K.lookup f_Form___init__ = some ⟨oc_Form___init__, od_Form___init__, .func (PySem.W.fnOf "__init__" "Form.__init__" (defArgs st_Form___init__) (defBody st_Form___init__) (defScope st_Form___init__) (.ref dt_Form___init__) kV_Form___init__ dc_Form___init__ pm_Form___init__ an_Form___init__ cd_Form___init__ ct_Form___init__), sl_Form___init__⟩)
    (c_Form___init__ : PySem.W.codeIn K cd_Form___init__ "Form.__init__" = true)
    (k_Form___init__ : PySem.W.keepIn K (.ref f_Form___init__) = true)
    (t_Form___init__ : K.lookup dt_Form___init__ = some ⟨to_Form___init__, td_Form___init__, .seq tv_Form___init__ tn_Form___init__, ts_Form___init__⟩)
    (u_Form___init__ : Vals [.int 0, .ref e_emp] tv_Form___init__.toList)
    (a_form_of : PySem.W.nsIn K mainGlobals "form_of" = some (some (.ref f_form_of)))
    (l_form_of : K.lookup f_form_of = some ⟨oc_form_of, od_form_of, .func (PySem.W.fnOf "form_of" "form_of" (defArgs st_form_of) (defBody st_form_of) (defScope st_form_of) .none kV_form_of dc_form_of pm_form_of an_form_of cd_form_of ct_form_of), sl_form_of⟩)
    (c_form_of : PySem.W.codeIn K cd_form_of "form_of" = true)
    (k_form_of : PySem.W.keepIn K (.ref f_form_of) = true)
    (a_Form___add__ : PySem.W.findIn K (.ref C_Form) "__add__" = some (some (.ref f_Form___add__)))
    (i_Form___add__ : PySem.W.isFn K (.ref f_Form___add__) = true)
    (l_Form___add__ : K.lookup f_Form___add__ = some ⟨oc_Form___add__, od_Form___add__, .func (PySem.W.fnOf "__add__" "Form.__add__" (defArgs st_Form___add__) (defBody st_Form___add__) (defScope st_Form___add__) .none kV_Form___add__ dc_Form___add__ pm_Form___add__ an_Form___add__ cd_Form___add__ ct_Form___add__), sl_Form___add__⟩)
    (c_Form___add__ : PySem.W.codeIn K cd_Form___add__ "Form.__add__" = true)
    (k_Form___add__ : PySem.W.keepIn K (.ref f_Form___add__) = true)
    (a_Form___eq__ : PySem.W.findIn K (.ref C_Form) "__eq__" = some (some (.ref f_Form___eq__)))
    (i_Form___eq__ : PySem.W.isFn K (.ref f_Form___eq__) = true)
    (l_Form___eq__ : K.lookup f_Form___eq__ = some ⟨oc_Form___eq__, od_Form___eq__, .func (PySem.W.fnOf "__eq__" "Form.__eq__" (defArgs st_Form___eq__) (defBody st_Form___eq__) (defScope st_Form___eq__) .none kV_Form___eq__ dc_Form___eq__ pm_Form___eq__ an_Form___eq__ cd_Form___eq__ ct_Form___eq__), sl_Form___eq__⟩)
    (c_Form___eq__ : PySem.W.codeIn K cd_Form___eq__ "Form.__eq__" = true)
    (k_Form___eq__ : PySem.W.keepIn K (.ref f_Form___eq__) = true)
    (a_Form___mul__ : PySem.W.findIn K (.ref C_Form) "__mul__" = some (some (.ref f_Form___mul__)))
    (i_Form___mul__ : PySem.W.isFn K (.ref f_Form___mul__) = true)
    (l_Form___mul__ : K.lookup f_Form___mul__ = some ⟨oc_Form___mul__, od_Form___mul__, .func (PySem.W.fnOf "__mul__" "Form.__mul__" (defArgs st_Form___mul__) (defBody st_Form___mul__) (defScope st_Form___mul__) .none kV_Form___mul__ dc_Form___mul__ pm_Form___mul__ an_Form___mul__ cd_Form___mul__ ct_Form___mul__), sl_Form___mul__⟩)
    (c_Form___mul__ : PySem.W.codeIn K cd_Form___mul__ "Form.__mul__" = true)
    (k_Form___mul__ : PySem.W.keepIn K (.ref f_Form___mul__) = true)
    (a_Form___neg__ : PySem.W.findIn K (.ref C_Form) "__neg__" = some (some (.ref f_Form___neg__)))
    (i_Form___neg__ : PySem.W.isFn K (.ref f_Form___neg__) = true)
    (l_Form___neg__ : K.lookup f_Form___neg__ = some ⟨oc_Form___neg__, od_Form___neg__, .func (PySem.W.fnOf "__neg__" "Form.__neg__" (defArgs st_Form___neg__) (defBody st_Form___neg__) (defScope st_Form___neg__) .none kV_Form___neg__ dc_Form___neg__ pm_Form___neg__ an_Form___neg__ cd_Form___neg__ ct_Form___neg__), sl_Form___neg__⟩)
    (c_Form___neg__ : PySem.W.codeIn K cd_Form___neg__ "Form.__neg__" = true)
    (k_Form___neg__ : PySem.W.keepIn K (.ref f_Form___neg__) = true)
    (a_Form___sub__ : PySem.W.findIn K (.ref C_Form) "__sub__" = some (some (.ref f_Form___sub__)))
    (i_Form___sub__ : PySem.W.isFn K (.ref f_Form___sub__) = true)
    (l_Form___sub__ : K.lookup f_Form___sub__ = some ⟨oc_Form___sub__, od_Form___sub__, .func (PySem.W.fnOf "__sub__" "Form.__sub__" (defArgs st_Form___sub__) (defBody st_Form___sub__) (defScope st_Form___sub__) .none kV_Form___sub__ dc_Form___sub__ pm_Form___sub__ an_Form___sub__ cd_Form___sub__ ct_Form___sub__), sl_Form___sub__⟩)
    (c_Form___sub__ : PySem.W.codeIn K cd_Form___sub__ "Form.__sub__" = true)
    (k_Form___sub__ : PySem.W.keepIn K (.ref f_Form___sub__) = true)
    (a_shared_factor : PySem.W.nsIn K mainGlobals "shared_factor" = some (some (.ref f_shared_factor)))
    (l_shared_factor : K.lookup f_shared_factor = some ⟨oc_shared_factor, od_shared_factor, .func (PySem.W.fnOf "shared_factor" "shared_factor" (defArgs st_shared_factor) (defBody st_shared_factor) (defScope st_shared_factor) .none kV_shared_factor dc_shared_factor pm_shared_factor an_shared_factor cd_shared_factor ct_shared_factor), sl_shared_factor⟩)
    (c_shared_factor : PySem.W.codeIn K cd_shared_factor "shared_factor" = true)
    (k_shared_factor : PySem.W.keepIn K (.ref f_shared_factor) = true)
    (a_Ratio___init__ : PySem.W.findIn K (.ref C_Ratio) "__init__" = some (some (.ref f_Ratio___init__)))
    (i_Ratio___init__ : PySem.W.isFn K (.ref f_Ratio___init__) = true)
    (l_Ratio___init__ : K.lookup f_Ratio___init__ = some ⟨oc_Ratio___init__, od_Ratio___init__, .func (PySem.W.fnOf "__init__" "Ratio.__init__" (defArgs st_Ratio___init__) (defBody st_Ratio___init__) (defScope st_Ratio___init__) (.ref dt_Ratio___init__) kV_Ratio___init__ dc_Ratio___init__ pm_Ratio___init__ an_Ratio___init__ cd_Ratio___init__ ct_Ratio___init__), sl_Ratio___init__⟩)
    (c_Ratio___init__ : PySem.W.codeIn K cd_Ratio___init__ "Ratio.__init__" = true)
    (k_Ratio___init__ : PySem.W.keepIn K (.ref f_Ratio___init__) = true)
    (t_Ratio___init__ : K.lookup dt_Ratio___init__ = some ⟨to_Ratio___init__, td_Ratio___init__, .seq tv_Ratio___init__ tn_Ratio___init__, ts_Ratio___init__⟩)
    (u_Ratio___init__ : Vals [.int 1] tv_Ratio___init__.toList)
    (a_as_ratio : PySem.W.nsIn K mainGlobals "as_ratio" = some (some (.ref f_as_ratio)))
    (l_as_ratio : K.lookup f_as_ratio = some ⟨oc_as_ratio, od_as_ratio, .func (PySem.W.fnOf "as_ratio" "as_ratio" (defArgs st_as_ratio) (defBody st_as_ratio) (defScope st_as_ratio) .none kV_as_ratio dc_as_ratio pm_as_ratio an_as_ratio cd_as_ratio ct_as_ratio), sl_as_ratio⟩)
    (c_as_ratio : PySem.W.codeIn K cd_as_ratio "as_ratio" = true)
    (k_as_ratio : PySem.W.keepIn K (.ref f_as_ratio) = true)
    (a_compared : PySem.W.nsIn K mainGlobals "compared" = some (some (.ref f_compared)))
    (l_compared : K.lookup f_compared = some ⟨oc_compared, od_compared, .func (PySem.W.fnOf "compared" "compared" (defArgs st_compared) (defBody st_compared) (defScope st_compared) .none kV_compared dc_compared pm_compared an_compared cd_compared ct_compared), sl_compared⟩)
    (c_compared : PySem.W.codeIn K cd_compared "compared" = true)
    (k_compared : PySem.W.keepIn K (.ref f_compared) = true)
    (a_is_above : PySem.W.nsIn K mainGlobals "is_above" = some (some (.ref f_is_above)))
    (l_is_above : K.lookup f_is_above = some ⟨oc_is_above, od_is_above, .func (PySem.W.fnOf "is_above" "is_above" (defArgs st_is_above) (defBody st_is_above) (defScope st_is_above) .none kV_is_above dc_is_above pm_is_above an_is_above cd_is_above ct_is_above), sl_is_above⟩)
    (c_is_above : PySem.W.codeIn K cd_is_above "is_above" = true)
    (k_is_above : PySem.W.keepIn K (.ref f_is_above) = true)
    (a_is_fraction : PySem.W.nsIn K mainGlobals "is_fraction" = some (some (.ref f_is_fraction)))
    (l_is_fraction : K.lookup f_is_fraction = some ⟨oc_is_fraction, od_is_fraction, .func (PySem.W.fnOf "is_fraction" "is_fraction" (defArgs st_is_fraction) (defBody st_is_fraction) (defScope st_is_fraction) .none kV_is_fraction dc_is_fraction pm_is_fraction an_is_fraction cd_is_fraction ct_is_fraction), sl_is_fraction⟩)
    (c_is_fraction : PySem.W.codeIn K cd_is_fraction "is_fraction" = true)
    (k_is_fraction : PySem.W.keepIn K (.ref f_is_fraction) = true)
    (a_are_lengths : PySem.W.nsIn K mainGlobals "are_lengths" = some (some (.ref f_are_lengths)))
    (l_are_lengths : K.lookup f_are_lengths = some ⟨oc_are_lengths, od_are_lengths, .func (PySem.W.fnOf "are_lengths" "are_lengths" (defArgs st_are_lengths) (defBody st_are_lengths) (defScope st_are_lengths) .none kV_are_lengths dc_are_lengths pm_are_lengths an_are_lengths cd_are_lengths ct_are_lengths), sl_are_lengths⟩)
    (c_are_lengths : PySem.W.codeIn K cd_are_lengths "are_lengths" = true)
    (k_are_lengths : PySem.W.keepIn K (.ref f_are_lengths) = true)
    (a_Ratio___add__ : PySem.W.findIn K (.ref C_Ratio) "__add__" = some (some (.ref f_Ratio___add__)))
    (i_Ratio___add__ : PySem.W.isFn K (.ref f_Ratio___add__) = true)
    (l_Ratio___add__ : K.lookup f_Ratio___add__ = some ⟨oc_Ratio___add__, od_Ratio___add__, .func (PySem.W.fnOf "__add__" "Ratio.__add__" (defArgs st_Ratio___add__) (defBody st_Ratio___add__) (defScope st_Ratio___add__) .none kV_Ratio___add__ dc_Ratio___add__ pm_Ratio___add__ an_Ratio___add__ cd_Ratio___add__ ct_Ratio___add__), sl_Ratio___add__⟩)
    (c_Ratio___add__ : PySem.W.codeIn K cd_Ratio___add__ "Ratio.__add__" = true)
    (k_Ratio___add__ : PySem.W.keepIn K (.ref f_Ratio___add__) = true)
    (a_Ratio___mul__ : PySem.W.findIn K (.ref C_Ratio) "__mul__" = some (some (.ref f_Ratio___mul__)))
    (i_Ratio___mul__ : PySem.W.isFn K (.ref f_Ratio___mul__) = true)
    (l_Ratio___mul__ : K.lookup f_Ratio___mul__ = some ⟨oc_Ratio___mul__, od_Ratio___mul__, .func (PySem.W.fnOf "__mul__" "Ratio.__mul__" (defArgs st_Ratio___mul__) (defBody st_Ratio___mul__) (defScope st_Ratio___mul__) .none kV_Ratio___mul__ dc_Ratio___mul__ pm_Ratio___mul__ an_Ratio___mul__ cd_Ratio___mul__ ct_Ratio___mul__), sl_Ratio___mul__⟩)
    (c_Ratio___mul__ : PySem.W.codeIn K cd_Ratio___mul__ "Ratio.__mul__" = true)
    (k_Ratio___mul__ : PySem.W.keepIn K (.ref f_Ratio___mul__) = true)
    (a_Ratio___rmul__ : PySem.W.findIn K (.ref C_Ratio) "__rmul__" = some (some (.ref f_Ratio___rmul__)))
    (i_Ratio___rmul__ : PySem.W.isFn K (.ref f_Ratio___rmul__) = true)
    (l_Ratio___rmul__ : K.lookup f_Ratio___rmul__ = some ⟨oc_Ratio___rmul__, od_Ratio___rmul__, .func (PySem.W.fnOf "__rmul__" "Ratio.__rmul__" (defArgs st_Ratio___rmul__) (defBody st_Ratio___rmul__) (defScope st_Ratio___rmul__) .none kV_Ratio___rmul__ dc_Ratio___rmul__ pm_Ratio___rmul__ an_Ratio___rmul__ cd_Ratio___rmul__ ct_Ratio___rmul__), sl_Ratio___rmul__⟩)
    (c_Ratio___rmul__ : PySem.W.codeIn K cd_Ratio___rmul__ "Ratio.__rmul__" = true)
    (k_Ratio___rmul__ : PySem.W.keepIn K (.ref f_Ratio___rmul__) = true)
    (a_worth : PySem.W.nsIn K mainGlobals "worth" = some (some (.ref f_worth)))
    (l_worth : K.lookup f_worth = some ⟨oc_worth, od_worth, .func (PySem.W.fnOf "worth" "worth" (defArgs st_worth) (defBody st_worth) (defScope st_worth) .none kV_worth dc_worth pm_worth an_worth cd_worth ct_worth), sl_worth⟩)
    (c_worth : PySem.W.codeIn K cd_worth "worth" = true)
    (k_worth : PySem.W.keepIn K (.ref f_worth) = true)
    (a_Form_at : PySem.W.findIn K (.ref C_Form) "at" = some (some (.ref f_Form_at)))
    (i_Form_at : PySem.W.isFn K (.ref f_Form_at) = true)
    (l_Form_at : K.lookup f_Form_at = some ⟨oc_Form_at, od_Form_at, .func (PySem.W.fnOf "at" "Form.at" (defArgs st_Form_at) (defBody st_Form_at) (defScope st_Form_at) .none kV_Form_at dc_Form_at pm_Form_at an_Form_at cd_Form_at ct_Form_at), sl_Form_at⟩)
    (c_Form_at : PySem.W.codeIn K cd_Form_at "Form.at" = true)
    (k_Form_at : PySem.W.keepIn K (.ref f_Form_at) = true)
    (a_Ratio___eq__ : PySem.W.findIn K (.ref C_Ratio) "__eq__" = some (some (.ref f_Ratio___eq__)))
    (i_Ratio___eq__ : PySem.W.isFn K (.ref f_Ratio___eq__) = true)
    (l_Ratio___eq__ : K.lookup f_Ratio___eq__ = some ⟨oc_Ratio___eq__, od_Ratio___eq__, .func (PySem.W.fnOf "__eq__" "Ratio.__eq__" (defArgs st_Ratio___eq__) (defBody st_Ratio___eq__) (defScope st_Ratio___eq__) .none kV_Ratio___eq__ dc_Ratio___eq__ pm_Ratio___eq__ an_Ratio___eq__ cd_Ratio___eq__ ct_Ratio___eq__), sl_Ratio___eq__⟩)
    (c_Ratio___eq__ : PySem.W.codeIn K cd_Ratio___eq__ "Ratio.__eq__" = true)
    (k_Ratio___eq__ : PySem.W.keepIn K (.ref f_Ratio___eq__) = true)
    (a__law_added : PySem.W.nsIn K mainGlobals "_law_added" = some (some (.ref f__law_added)))
    (l__law_added : K.lookup f__law_added = some ⟨oc__law_added, od__law_added, .func (PySem.W.fnOf "_law_added" "_law_added" (defArgs st__law_added) (defBody st__law_added) (defScope st__law_added) .none kV__law_added dc__law_added pm__law_added an__law_added cd__law_added ct__law_added), sl__law_added⟩)
    (c__law_added : PySem.W.codeIn K cd__law_added "_law_added" = true)
    (k__law_added : PySem.W.keepIn K (.ref f__law_added) = true)
    (a__law_draw : PySem.W.nsIn K mainGlobals "_law_draw" = some (some (.ref f__law_draw)))
    (l__law_draw : K.lookup f__law_draw = some ⟨oc__law_draw, od__law_draw, .func (PySem.W.fnOf "_law_draw" "_law_draw" (defArgs st__law_draw) (defBody st__law_draw) (defScope st__law_draw) .none kV__law_draw dc__law_draw pm__law_draw an__law_draw cd__law_draw ct__law_draw), sl__law_draw⟩)
    (c__law_draw : PySem.W.codeIn K cd__law_draw "_law_draw" = true)
    (k__law_draw : PySem.W.keepIn K (.ref f__law_draw) = true)
    (a__law_one : PySem.W.nsIn K mainGlobals "_law_one" = some (some (.ref f__law_one)))
    (l__law_one : K.lookup f__law_one = some ⟨oc__law_one, od__law_one, .func (PySem.W.fnOf "_law_one" "_law_one" (defArgs st__law_one) (defBody st__law_one) (defScope st__law_one) .none kV__law_one dc__law_one pm__law_one an__law_one cd__law_one ct__law_one), sl__law_one⟩)
    (c__law_one : PySem.W.codeIn K cd__law_one "_law_one" = true)
    (k__law_one : PySem.W.keepIn K (.ref f__law_one) = true)
    (a__law_drawn : PySem.W.nsIn K mainGlobals "_law_drawn" = some (some (.ref f__law_drawn)))
    (l__law_drawn : K.lookup f__law_drawn = some ⟨oc__law_drawn, od__law_drawn, .func (PySem.W.fnOf "_law_drawn" "_law_drawn" (defArgs st__law_drawn) (defBody st__law_drawn) (defScope st__law_drawn) .none kV__law_drawn dc__law_drawn pm__law_drawn an__law_drawn cd__law_drawn ct__law_drawn), sl__law_drawn⟩)
    (c__law_drawn : PySem.W.codeIn K cd__law_drawn "_law_drawn" = true)
    (k__law_drawn : PySem.W.keepIn K (.ref f__law_drawn) = true)
    (a__law_pairs : PySem.W.nsIn K mainGlobals "_law_pairs" = some (some (.ref f__law_pairs)))
    (l__law_pairs : K.lookup f__law_pairs = some ⟨oc__law_pairs, od__law_pairs, .func (PySem.W.fnOf "_law_pairs" "_law_pairs" (defArgs st__law_pairs) (defBody st__law_pairs) (defScope st__law_pairs) .none kV__law_pairs dc__law_pairs pm__law_pairs an__law_pairs cd__law_pairs ct__law_pairs), sl__law_pairs⟩)
    (c__law_pairs : PySem.W.codeIn K cd__law_pairs "_law_pairs" = true)
    (k__law_pairs : PySem.W.keepIn K (.ref f__law_pairs) = true)
    (a__law_due : PySem.W.nsIn K mainGlobals "_law_due" = some (some (.ref f__law_due)))
    (l__law_due : K.lookup f__law_due = some ⟨oc__law_due, od__law_due, .func (PySem.W.fnOf "_law_due" "_law_due" (defArgs st__law_due) (defBody st__law_due) (defScope st__law_due) .none kV__law_due dc__law_due pm__law_due an__law_due cd__law_due ct__law_due), sl__law_due⟩)
    (c__law_due : PySem.W.codeIn K cd__law_due "_law_due" = true)
    (k__law_due : PySem.W.keepIn K (.ref f__law_due) = true)
    (a__law_shown : PySem.W.nsIn K mainGlobals "_law_shown" = some (some (.ref f__law_shown)))
    (l__law_shown : K.lookup f__law_shown = some ⟨oc__law_shown, od__law_shown, .func (PySem.W.fnOf "_law_shown" "_law_shown" (defArgs st__law_shown) (defBody st__law_shown) (defScope st__law_shown) .none kV__law_shown dc__law_shown pm__law_shown an__law_shown cd__law_shown ct__law_shown), sl__law_shown⟩)
    (c__law_shown : PySem.W.codeIn K cd__law_shown "_law_shown" = true)
    (k__law_shown : PySem.W.keepIn K (.ref f__law_shown) = true)
    (a__law_right : PySem.W.nsIn K mainGlobals "_law_right" = some (some (.ref f__law_right)))
    (l__law_right : K.lookup f__law_right = some ⟨oc__law_right, od__law_right, .func (PySem.W.fnOf "_law_right" "_law_right" (defArgs st__law_right) (defBody st__law_right) (defScope st__law_right) .none kV__law_right dc__law_right pm__law_right an__law_right cd__law_right ct__law_right), sl__law_right⟩)
    (c__law_right : PySem.W.codeIn K cd__law_right "_law_right" = true)
    (k__law_right : PySem.W.keepIn K (.ref f__law_right) = true)
    (a_law : PySem.W.nsIn K mainGlobals "law" = some (some (.ref f_law)))
    (l_law : K.lookup f_law = some ⟨oc_law, od_law, .func (PySem.W.fnOf "law" "law" (defArgs st_law) (defBody st_law) (defScope st_law) .none kV_law dc_law pm_law an_law cd_law ct_law), sl_law⟩)
    (c_law : PySem.W.codeIn K cd_law "law" = true)
    (k_law : PySem.W.keepIn K (.ref f_law) = true)
    (ee_emp : K.lookup e_emp = some eo_emp)
    (ec_emp : eo_emp.cls = .type "tuple")
    (ei_emp : eo_emp.dict = none)
    (ed_emp : eo_emp.data = .seq #[] en_emp)
    (z_abs : PySem.W.nsIn K mainGlobals "abs" = some none)
    (z_all : PySem.W.nsIn K mainGlobals "all" = some none)
    (z_bool : PySem.W.nsIn K mainGlobals "bool" = some none)
    (z_dict : PySem.W.nsIn K mainGlobals "dict" = some none)
    (z_int : PySem.W.nsIn K mainGlobals "int" = some none)
    (z_isinstance : PySem.W.nsIn K mainGlobals "isinstance" = some none)
    (z_len : PySem.W.nsIn K mainGlobals "len" = some none)
    (z_list : PySem.W.nsIn K mainGlobals "list" = some none)
    (z_max : PySem.W.nsIn K mainGlobals "max" = some none)
    (z_min : PySem.W.nsIn K mainGlobals "min" = some none)
    (z_range : PySem.W.nsIn K mainGlobals "range" = some none)
    (z_sorted : PySem.W.nsIn K mainGlobals "sorted" = some none)
    (z_str : PySem.W.nsIn K mainGlobals "str" = some none)
    (z_tuple : PySem.W.nsIn K mainGlobals "tuple" = some none)
    (pg_Form : PySem.W.plainGet K C_Form Str.empty = true)
    (hd_Form : PySem.W.hasDictIn K C_Form = true)
    (po_Form : PySem.W.plainOver K C_Form = true)
    (sa_Form : PySem.W.findIn K (.ref C_Form) "__setattr__" = some (some (.builtin "object.__setattr__")))
    (mk_Form : PySem.W.makesIn K C_Form = true)
    (kc_Form : PySem.W.keepIn K (.ref C_Form) = true)
    (sf_Form : PySem.W.selfFirst K C_Form = true)
    (si_Form : PySem.W.subIn K (.type "int") (.ref C_Form) = some false)
    (sj_Form : PySem.W.subIn K (.ref C_Form) (.type "int") = some false)
    (ha_Form : PySem.W.findIn K (.ref C_Form) "__class__" = some (some (.builtin "object.__class__")))
    (hm_Form : PySem.W.mroIn K C_Form (.type "object") = some true)
    (kb_Form_int : PySem.W.kitOne K (.ref C_Form) (.type "int") = some false)
    (kb_Form_bool : PySem.W.kitOne K (.ref C_Form) (.type "bool") = some false)
    (kb_Form_str : PySem.W.kitOne K (.ref C_Form) (.type "str") = some false)
    (kb_Form_tuple : PySem.W.kitOne K (.ref C_Form) (.type "tuple") = some false)
    (kb_Form_list : PySem.W.kitOne K (.ref C_Form) (.type "list") = some false)
    (kb_Form_dict : PySem.W.kitOne K (.ref C_Form) (.type "dict") = some false)
    (kt_Form_NoneType : PySem.W.kitOne K (.type "NoneType") (.ref C_Form) = some false)
    (nf_Form_NoneType : PySem.W.notFirst K C_Form (.type "NoneType") = true)
    (kt_Form_bool : PySem.W.kitOne K (.type "bool") (.ref C_Form) = some false)
    (nf_Form_bool : PySem.W.notFirst K C_Form (.type "bool") = true)
    (kt_Form_int : PySem.W.kitOne K (.type "int") (.ref C_Form) = some false)
    (nf_Form_int : PySem.W.notFirst K C_Form (.type "int") = true)
    (kt_Form_str : PySem.W.kitOne K (.type "str") (.ref C_Form) = some false)
    (nf_Form_str : PySem.W.notFirst K C_Form (.type "str") = true)
    (kt_Form_list : PySem.W.kitOne K (.type "list") (.ref C_Form) = some false)
    (nf_Form_list : PySem.W.notFirst K C_Form (.type "list") = true)
    (kt_Form_tuple : PySem.W.kitOne K (.type "tuple") (.ref C_Form) = some false)
    (nf_Form_tuple : PySem.W.notFirst K C_Form (.type "tuple") = true)
    (kt_Form_dict : PySem.W.kitOne K (.type "dict") (.ref C_Form) = some false)
    (nf_Form_dict : PySem.W.notFirst K C_Form (.type "dict") = true)
    (nn_Form_Form : PySem.W.notFirst K C_Form (.ref C_Form) = true)
    (cc_Form_Ratio : PySem.W.kitOne K (.ref C_Form) (.ref C_Ratio) = some false)
    (nn_Form_Ratio : PySem.W.notFirst K C_Form (.ref C_Ratio) = true)
    (pg_Ratio : PySem.W.plainGet K C_Ratio Str.empty = true)
    (hd_Ratio : PySem.W.hasDictIn K C_Ratio = true)
    (po_Ratio : PySem.W.plainOver K C_Ratio = true)
    (sa_Ratio : PySem.W.findIn K (.ref C_Ratio) "__setattr__" = some (some (.builtin "object.__setattr__")))
    (mk_Ratio : PySem.W.makesIn K C_Ratio = true)
    (kc_Ratio : PySem.W.keepIn K (.ref C_Ratio) = true)
    (sf_Ratio : PySem.W.selfFirst K C_Ratio = true)
    (si_Ratio : PySem.W.subIn K (.type "int") (.ref C_Ratio) = some false)
    (sj_Ratio : PySem.W.subIn K (.ref C_Ratio) (.type "int") = some false)
    (ha_Ratio : PySem.W.findIn K (.ref C_Ratio) "__class__" = some (some (.builtin "object.__class__")))
    (hm_Ratio : PySem.W.mroIn K C_Ratio (.type "object") = some true)
    (kb_Ratio_int : PySem.W.kitOne K (.ref C_Ratio) (.type "int") = some false)
    (kb_Ratio_bool : PySem.W.kitOne K (.ref C_Ratio) (.type "bool") = some false)
    (kb_Ratio_str : PySem.W.kitOne K (.ref C_Ratio) (.type "str") = some false)
    (kb_Ratio_tuple : PySem.W.kitOne K (.ref C_Ratio) (.type "tuple") = some false)
    (kb_Ratio_list : PySem.W.kitOne K (.ref C_Ratio) (.type "list") = some false)
    (kb_Ratio_dict : PySem.W.kitOne K (.ref C_Ratio) (.type "dict") = some false)
    (kt_Ratio_NoneType : PySem.W.kitOne K (.type "NoneType") (.ref C_Ratio) = some false)
    (nf_Ratio_NoneType : PySem.W.notFirst K C_Ratio (.type "NoneType") = true)
    (kt_Ratio_bool : PySem.W.kitOne K (.type "bool") (.ref C_Ratio) = some false)
    (nf_Ratio_bool : PySem.W.notFirst K C_Ratio (.type "bool") = true)
    (kt_Ratio_int : PySem.W.kitOne K (.type "int") (.ref C_Ratio) = some false)
    (nf_Ratio_int : PySem.W.notFirst K C_Ratio (.type "int") = true)
    (kt_Ratio_str : PySem.W.kitOne K (.type "str") (.ref C_Ratio) = some false)
    (nf_Ratio_str : PySem.W.notFirst K C_Ratio (.type "str") = true)
    (kt_Ratio_list : PySem.W.kitOne K (.type "list") (.ref C_Ratio) = some false)
    (nf_Ratio_list : PySem.W.notFirst K C_Ratio (.type "list") = true)
    (kt_Ratio_tuple : PySem.W.kitOne K (.type "tuple") (.ref C_Ratio) = some false)
    (nf_Ratio_tuple : PySem.W.notFirst K C_Ratio (.type "tuple") = true)
    (kt_Ratio_dict : PySem.W.kitOne K (.type "dict") (.ref C_Ratio) = some false)
    (nf_Ratio_dict : PySem.W.notFirst K C_Ratio (.type "dict") = true)
    (cc_Ratio_Form : PySem.W.kitOne K (.ref C_Ratio) (.ref C_Form) = some false)
    (nn_Ratio_Form : PySem.W.notFirst K C_Ratio (.ref C_Form) = true)
    (nn_Ratio_Ratio : PySem.W.notFirst K C_Ratio (.ref C_Ratio) = true)
    (hn : PySem.W.specialIn K (.builtin "object.__class__") "__get__" = some (some (.builtin "getset_descriptor.__get__")))
    (ht : PySem.W.takesIn K (.builtin "object.__class__") = some true)
    (na_Form_constant : PySem.W.findIn K (.ref C_Form) "constant" = some none)
    (na_Form_names : PySem.W.findIn K (.ref C_Form) "names" = some none)
    (na_Form_terms : PySem.W.findIn K (.ref C_Form) "terms" = some none)
    (na_Ratio_bottom : PySem.W.findIn K (.ref C_Ratio) "bottom" = some none)
    (na_Ratio_top : PySem.W.findIn K (.ref C_Ratio) "top" = some none)
    (of_Form_add : PySem.W.findIn K (.ref C_Form) (PySem.dunder "add") = some (some (.ref f_Form___add__)))
    (i1_Form_add : PySem.W.findIn K (.type "int") (PySem.dunder "add") = some fo_Form_add)
    (i2_Form_add : PySem.W.findIn K (.type "int") (dunderR "add") = some ro_Form_add)
    (nr_Form_add : PySem.W.findIn K (.ref C_Form) (dunderR "add") = some none)
    (of_Form_mul : PySem.W.findIn K (.ref C_Form) (PySem.dunder "mul") = some (some (.ref f_Form___mul__)))
    (i1_Form_mul : PySem.W.findIn K (.type "int") (PySem.dunder "mul") = some fo_Form_mul)
    (i2_Form_mul : PySem.W.findIn K (.type "int") (dunderR "mul") = some ro_Form_mul)
    (nr_Form_mul : PySem.W.findIn K (.ref C_Form) (dunderR "mul") = some none)
    (of_Form_sub : PySem.W.findIn K (.ref C_Form) (PySem.dunder "sub") = some (some (.ref f_Form___sub__)))
    (i1_Form_sub : PySem.W.findIn K (.type "int") (PySem.dunder "sub") = some fo_Form_sub)
    (i2_Form_sub : PySem.W.findIn K (.type "int") (dunderR "sub") = some ro_Form_sub)
    (nr_Form_sub : PySem.W.findIn K (.ref C_Form) (dunderR "sub") = some none)
    (of_Ratio_add : PySem.W.findIn K (.ref C_Ratio) (PySem.dunder "add") = some (some (.ref f_Ratio___add__)))
    (i1_Ratio_add : PySem.W.findIn K (.type "int") (PySem.dunder "add") = some fo_Ratio_add)
    (i2_Ratio_add : PySem.W.findIn K (.type "int") (dunderR "add") = some ro_Ratio_add)
    (of_Ratio_mul : PySem.W.findIn K (.ref C_Ratio) (PySem.dunder "mul") = some (some (.ref f_Ratio___mul__)))
    (i1_Ratio_mul : PySem.W.findIn K (.type "int") (PySem.dunder "mul") = some fo_Ratio_mul)
    (i2_Ratio_mul : PySem.W.findIn K (.type "int") (dunderR "mul") = some ro_Ratio_mul)
    (or_Ratio_mul : PySem.W.findIn K (.ref C_Ratio) (dunderR "mul") = some (some (.ref f_Ratio___rmul__)))
    (fi_Ratio_mul : ((fo_Ratio_mul.isSome && !isSeqSlot fo_Ratio_mul) || (ro_Ratio_mul.isSome && !isSeqSlot ro_Ratio_mul)) = true)
    (ne_Form : PySem.W.findIn K (.ref C_Form) "__ne__" = some (some (.builtin "object.__ne__")))
    (ob_Form : PySem.W.subIn K (.ref C_Form) (.type "object") = some true)
    (ne_Ratio : PySem.W.findIn K (.ref C_Ratio) "__ne__" = some (some (.builtin "object.__ne__")))
    (ob_Ratio : PySem.W.subIn K (.ref C_Ratio) (.type "object") = some true) :
    ∃ fd : FuncData, (∀ (s : Shared) (v : Value), BindsTo s fd ⟨[v], []⟩ [("_law_cells", v)]) ∧ ∀ base : Heap, K.In base → base.Ns mainGlobals mg → FnOk l.prog w K mg base (L2.CX l.prog w) 18 fa fd ["_law_cells"] (sp_law K) := by
  have e := hfa.symm.trans (PySem.W.mg_of X G a_law)
  cases e
  have F__law_bag := fun_mk (st := st__law_bag) l__law_bag c__law_bag k__law_bag
  have b__law_bag := F__law_bag.binds (ps := ["_law_cells", "_law_k"]) fun _ _ _ _ _ _ us hl => match us, hl with | [_, _], _ => rfl
  have F_are_small := fun_mk (st := st_are_small) l_are_small c_are_small k_are_small
  have b_are_small := F_are_small.binds (ps := ["value", "least", "most"]) fun _ _ _ _ _ _ us hl => match us, hl with | [_, _, _], _ => rfl
  have F_is_integer := fun_mk (st := st_is_integer) l_is_integer c_is_integer k_is_integer
  have b_is_integer := F_is_integer.binds (ps := ["value"]) fun _ _ _ _ _ _ us hl => match us, hl with | [_], _ => rfl
  have F_are_terms := fun_mk (st := st_are_terms) l_are_terms c_are_terms k_are_terms
  have b_are_terms := F_are_terms.binds (ps := ["value"]) fun _ _ _ _ _ _ us hl => match us, hl with | [_], _ => rfl
  have F_Form___init__ : FunD K "__init__" "Form.__init__" (defArgs st_Form___init__) (defBody st_Form___init__) (defScope st_Form___init__) [.int 0, .ref e_emp] [] f_Form___init__ (PySem.W.fnOf "__init__" "Form.__init__" (defArgs st_Form___init__) (defBody st_Form___init__) (defScope st_Form___init__) (.ref dt_Form___init__) kV_Form___init__ dc_Form___init__ pm_Form___init__ an_Form___init__ cd_Form___init__ ct_Form___init__) := ⟨⟨oc_Form___init__, od_Form___init__, _, kV_Form___init__, dc_Form___init__, pm_Form___init__, an_Form___init__, cd_Form___init__, ct_Form___init__, sl_Form___init__, rfl, l_Form___init__, c_Form___init__, .inr ⟨by simp, dt_Form___init__, _, tv_Form___init__.toList, tn_Form___init__, rfl, t_Form___init__, rfl, u_Form___init__⟩, .inl rfl⟩, k_Form___init__⟩
  have b_Form___init__ : Binds K (PySem.W.fnOf "__init__" "Form.__init__" (defArgs st_Form___init__) (defBody st_Form___init__) (defScope st_Form___init__) (.ref dt_Form___init__) kV_Form___init__ dc_Form___init__ pm_Form___init__ an_Form___init__ cd_Form___init__ ct_Form___init__) ["self", "constant", "terms"] [] := FunD_all F_Form___init__ (by simp) fun T kV doc pm an cdv ct us its l1 l2 => match us, its, l1, l2 with | [_, _, _], [_, _], _, _ => ⟨_, rfl, rfl⟩
  have F_form_of := fun_mk (st := st_form_of) l_form_of c_form_of k_form_of
  have b_form_of := F_form_of.binds (ps := ["constant", "numbers"]) fun _ _ _ _ _ _ us hl => match us, hl with | [_, _], _ => rfl
  have F_Form___add__ := fun_mk (st := st_Form___add__) l_Form___add__ c_Form___add__ k_Form___add__
  have b_Form___add__ := F_Form___add__.binds (ps := ["self", "other"]) fun _ _ _ _ _ _ us hl => match us, hl with | [_, _], _ => rfl
  have F_Form___eq__ := fun_mk (st := st_Form___eq__) l_Form___eq__ c_Form___eq__ k_Form___eq__
  have b_Form___eq__ := F_Form___eq__.binds (ps := ["self", "other"]) fun _ _ _ _ _ _ us hl => match us, hl with | [_, _], _ => rfl
  have F_Form___mul__ := fun_mk (st := st_Form___mul__) l_Form___mul__ c_Form___mul__ k_Form___mul__
  have b_Form___mul__ := F_Form___mul__.binds (ps := ["self", "other"]) fun _ _ _ _ _ _ us hl => match us, hl with | [_, _], _ => rfl
  have F_Form___neg__ := fun_mk (st := st_Form___neg__) l_Form___neg__ c_Form___neg__ k_Form___neg__
  have b_Form___neg__ := F_Form___neg__.binds (ps := ["self"]) fun _ _ _ _ _ _ us hl => match us, hl with | [_], _ => rfl
  have F_Form___sub__ := fun_mk (st := st_Form___sub__) l_Form___sub__ c_Form___sub__ k_Form___sub__
  have b_Form___sub__ := F_Form___sub__.binds (ps := ["self", "other"]) fun _ _ _ _ _ _ us hl => match us, hl with | [_, _], _ => rfl
  have F_shared_factor := fun_mk (st := st_shared_factor) l_shared_factor c_shared_factor k_shared_factor
  have b_shared_factor := F_shared_factor.binds (ps := ["one", "two"]) fun _ _ _ _ _ _ us hl => match us, hl with | [_, _], _ => rfl
  have F_Ratio___init__ : FunD K "__init__" "Ratio.__init__" (defArgs st_Ratio___init__) (defBody st_Ratio___init__) (defScope st_Ratio___init__) [.int 1] [] f_Ratio___init__ (PySem.W.fnOf "__init__" "Ratio.__init__" (defArgs st_Ratio___init__) (defBody st_Ratio___init__) (defScope st_Ratio___init__) (.ref dt_Ratio___init__) kV_Ratio___init__ dc_Ratio___init__ pm_Ratio___init__ an_Ratio___init__ cd_Ratio___init__ ct_Ratio___init__) := ⟨⟨oc_Ratio___init__, od_Ratio___init__, _, kV_Ratio___init__, dc_Ratio___init__, pm_Ratio___init__, an_Ratio___init__, cd_Ratio___init__, ct_Ratio___init__, sl_Ratio___init__, rfl, l_Ratio___init__, c_Ratio___init__, .inr ⟨by simp, dt_Ratio___init__, _, tv_Ratio___init__.toList, tn_Ratio___init__, rfl, t_Ratio___init__, rfl, u_Ratio___init__⟩, .inl rfl⟩, k_Ratio___init__⟩
  have b_Ratio___init__ : Binds K (PySem.W.fnOf "__init__" "Ratio.__init__" (defArgs st_Ratio___init__) (defBody st_Ratio___init__) (defScope st_Ratio___init__) (.ref dt_Ratio___init__) kV_Ratio___init__ dc_Ratio___init__ pm_Ratio___init__ an_Ratio___init__ cd_Ratio___init__ ct_Ratio___init__) ["self", "top", "bottom"] [] := FunD_all F_Ratio___init__ (by simp) fun T kV doc pm an cdv ct us its l1 l2 => match us, its, l1, l2 with | [_, _, _], [_], _, _ => ⟨_, rfl, rfl⟩
  have F_as_ratio := fun_mk (st := st_as_ratio) l_as_ratio c_as_ratio k_as_ratio
  have b_as_ratio := F_as_ratio.binds (ps := ["value"]) fun _ _ _ _ _ _ us hl => match us, hl with | [_], _ => rfl
  have F_compared := fun_mk (st := st_compared) l_compared c_compared k_compared
  have b_compared := F_compared.binds (ps := ["one", "other"]) fun _ _ _ _ _ _ us hl => match us, hl with | [_, _], _ => rfl
  have F_is_above := fun_mk (st := st_is_above) l_is_above c_is_above k_is_above
  have b_is_above := F_is_above.binds (ps := ["one", "other"]) fun _ _ _ _ _ _ us hl => match us, hl with | [_, _], _ => rfl
  have F_is_fraction := fun_mk (st := st_is_fraction) l_is_fraction c_is_fraction k_is_fraction
  have b_is_fraction := F_is_fraction.binds (ps := ["value"]) fun _ _ _ _ _ _ us hl => match us, hl with | [_], _ => rfl
  have F_are_lengths := fun_mk (st := st_are_lengths) l_are_lengths c_are_lengths k_are_lengths
  have b_are_lengths := F_are_lengths.binds (ps := ["value"]) fun _ _ _ _ _ _ us hl => match us, hl with | [_], _ => rfl
  have F_Ratio___add__ := fun_mk (st := st_Ratio___add__) l_Ratio___add__ c_Ratio___add__ k_Ratio___add__
  have b_Ratio___add__ := F_Ratio___add__.binds (ps := ["self", "other"]) fun _ _ _ _ _ _ us hl => match us, hl with | [_, _], _ => rfl
  have F_Ratio___mul__ := fun_mk (st := st_Ratio___mul__) l_Ratio___mul__ c_Ratio___mul__ k_Ratio___mul__
  have b_Ratio___mul__ := F_Ratio___mul__.binds (ps := ["self", "other"]) fun _ _ _ _ _ _ us hl => match us, hl with | [_, _], _ => rfl
  have F_Ratio___rmul__ := fun_mk (st := st_Ratio___rmul__) l_Ratio___rmul__ c_Ratio___rmul__ k_Ratio___rmul__
  have b_Ratio___rmul__ := F_Ratio___rmul__.binds (ps := ["self", "other"]) fun _ _ _ _ _ _ us hl => match us, hl with | [_, _], _ => rfl
  have F_worth := fun_mk (st := st_worth) l_worth c_worth k_worth
  have b_worth := F_worth.binds (ps := ["form", "lengths"]) fun _ _ _ _ _ _ us hl => match us, hl with | [_, _], _ => rfl
  have F_Form_at := fun_mk (st := st_Form_at) l_Form_at c_Form_at k_Form_at
  have b_Form_at := F_Form_at.binds (ps := ["self", "lengths"]) fun _ _ _ _ _ _ us hl => match us, hl with | [_, _], _ => rfl
  have F_Ratio___eq__ := fun_mk (st := st_Ratio___eq__) l_Ratio___eq__ c_Ratio___eq__ k_Ratio___eq__
  have b_Ratio___eq__ := F_Ratio___eq__.binds (ps := ["self", "other"]) fun _ _ _ _ _ _ us hl => match us, hl with | [_, _], _ => rfl
  have F__law_added := fun_mk (st := st__law_added) l__law_added c__law_added k__law_added
  have b__law_added := F__law_added.binds (ps := ["_law_one_here", "_law_two", "_law_by"]) fun _ _ _ _ _ _ us hl => match us, hl with | [_, _, _], _ => rfl
  have F__law_draw := fun_mk (st := st__law_draw) l__law_draw c__law_draw k__law_draw
  have b__law_draw := F__law_draw.binds (ps := ["_law_bag_here", "_law_wide"]) fun _ _ _ _ _ _ us hl => match us, hl with | [_, _], _ => rfl
  have F__law_one := fun_mk (st := st__law_one) l__law_one c__law_one k__law_one
  have b__law_one := F__law_one.binds (ps := ["_law_bag_here", "_law_some"]) fun _ _ _ _ _ _ us hl => match us, hl with | [_, _], _ => rfl
  have F__law_drawn := fun_mk (st := st__law_drawn) l__law_drawn c__law_drawn k__law_drawn
  have b__law_drawn := F__law_drawn.binds (ps := ["_law_bag_here"]) fun _ _ _ _ _ _ us hl => match us, hl with | [_], _ => rfl
  have F__law_pairs := fun_mk (st := st__law_pairs) l__law_pairs c__law_pairs k__law_pairs
  have b__law_pairs := F__law_pairs.binds (ps := ["_law_numbers"]) fun _ _ _ _ _ _ us hl => match us, hl with | [_], _ => rfl
  have F__law_due := fun_mk (st := st__law_due) l__law_due c__law_due k__law_due
  have b__law_due := F__law_due.binds (ps := ["_law_first", "_law_numbers"]) fun _ _ _ _ _ _ us hl => match us, hl with | [_, _], _ => rfl
  have F__law_shown := fun_mk (st := st__law_shown) l__law_shown c__law_shown k__law_shown
  have b__law_shown := F__law_shown.binds (ps := ["_law_made"]) fun _ _ _ _ _ _ us hl => match us, hl with | [_], _ => rfl
  have F__law_right := fun_mk (st := st__law_right) l__law_right c__law_right k__law_right
  have b__law_right := F__law_right.binds (ps := ["_law_bag_here"]) fun _ _ _ _ _ _ us hl => match us, hl with | [_], _ => rfl
  have F_law := fun_mk (st := st_law) l_law c_law k_law
  have b_law := F_law.binds (ps := ["_law_cells"]) fun _ _ _ _ _ _ us hl => match us, hl with | [_], _ => rfl
  have kb_Form___init___0_terms_constant : ∃ g, KBn K (PySem.W.fnOf "__init__" "Form.__init__" (defArgs st_Form___init__) (defBody st_Form___init__) (defScope st_Form___init__) (.ref dt_Form___init__) kV_Form___init__ dc_Form___init__ pm_Form___init__ an_Form___init__ cd_Form___init__ ct_Form___init__) ["self", "constant", "terms"] 1 ["terms", "constant"] g (prm [1, 0]) := by
    obtain ⟨its, h⟩ := FunD.kbindsD (ps := ["self", "constant", "terms"]) F_Form___init__ 1 ["terms", "constant"] (fun us _ ws => prm [1, 0] us ws) (by simp) (fun r1 _ r3 => vals_prm _ r1 r3) fun T kV doc pm an cdv ct us its ws l1 l2 l3 => match us, its, ws, l1, l2, l3 with | [_], [_, _], [_, _], _, _, _ => ⟨_, rfl, rfl⟩
    exact ⟨_, h⟩
  have kb_Form_at_0_lengths : ∃ g, KBn K (PySem.W.fnOf "at" "Form.at" (defArgs st_Form_at) (defBody st_Form_at) (defScope st_Form_at) .none kV_Form_at dc_Form_at pm_Form_at an_Form_at cd_Form_at ct_Form_at) ["self", "lengths"] 1 ["lengths"] g (prm [0]) := Fun_kb (ps := ["self", "lengths"]) F_Form_at 1 ["lengths"] (fun us ws => prm [0] us ws) (fun r1 r3 => vals_prm _ r1 r3) fun kV doc pm an cdv ct us ws l1 l2 => match us, ws, l1, l2 with | [_], [_], _, _ => rfl
  have bd_Form___init___1 : ∃ ds, Vals [.ref e_emp] ds ∧ Binds K (PySem.W.fnOf "__init__" "Form.__init__" (defArgs st_Form___init__) (defBody st_Form___init__) (defScope st_Form___init__) (.ref dt_Form___init__) kV_Form___init__ dc_Form___init__ pm_Form___init__ an_Form___init__ cd_Form___init__ ct_Form___init__) ["self", "constant", "terms"] ds := FunD.binds1 (ps := ["self", "constant", "terms"]) F_Form___init__ 2 1 (by simp) (by rfl) fun T kV doc pm an cdv ct us its l1 l2 => match us, its, l1, l2 with | [_, _], [_, _], _, _ => ⟨_, rfl, rfl⟩
  have bd_Form___init___2 : ∃ ds, Vals [.int 0, .ref e_emp] ds ∧ Binds K (PySem.W.fnOf "__init__" "Form.__init__" (defArgs st_Form___init__) (defBody st_Form___init__) (defScope st_Form___init__) (.ref dt_Form___init__) kV_Form___init__ dc_Form___init__ pm_Form___init__ an_Form___init__ cd_Form___init__ ct_Form___init__) ["self", "constant", "terms"] ds := FunD.binds1 (ps := ["self", "constant", "terms"]) F_Form___init__ 1 0 (by simp) (by rfl) fun T kV doc pm an cdv ct us its l1 l2 => match us, its, l1, l2 with | [_], [_, _], _, _ => ⟨_, rfl, rfl⟩
  have bd_Ratio___init___1 : ∃ ds, Vals [.int 1] ds ∧ Binds K (PySem.W.fnOf "__init__" "Ratio.__init__" (defArgs st_Ratio___init__) (defBody st_Ratio___init__) (defScope st_Ratio___init__) (.ref dt_Ratio___init__) kV_Ratio___init__ dc_Ratio___init__ pm_Ratio___init__ an_Ratio___init__ cd_Ratio___init__ ct_Ratio___init__) ["self", "top", "bottom"] ds := FunD.binds1 (ps := ["self", "top", "bottom"]) F_Ratio___init__ 2 0 (by simp) (by rfl) fun T kV doc pm an cdv ct us its l1 l2 => match us, its, l1, l2 with | [_, _], [_], _, _ => ⟨_, rfl, rfl⟩
  let A : CT := { ad := fun c => [C_Ratio, C_Form].getD c C_Form, nms := nmsOf, cs := [0, 1] }
  let x : Fx := { f__law_bag := f__law_bag, d__law_bag := (PySem.W.fnOf "_law_bag" "_law_bag" (defArgs st__law_bag) (defBody st__law_bag) (defScope st__law_bag) .none kV__law_bag dc__law_bag pm__law_bag an__law_bag cd__law_bag ct__law_bag), f_are_small := f_are_small, d_are_small := (PySem.W.fnOf "are_small" "are_small" (defArgs st_are_small) (defBody st_are_small) (defScope st_are_small) .none kV_are_small dc_are_small pm_are_small an_are_small cd_are_small ct_are_small), f_is_integer := f_is_integer, d_is_integer := (PySem.W.fnOf "is_integer" "is_integer" (defArgs st_is_integer) (defBody st_is_integer) (defScope st_is_integer) .none kV_is_integer dc_is_integer pm_is_integer an_is_integer cd_is_integer ct_is_integer), f_are_terms := f_are_terms, d_are_terms := (PySem.W.fnOf "are_terms" "are_terms" (defArgs st_are_terms) (defBody st_are_terms) (defScope st_are_terms) .none kV_are_terms dc_are_terms pm_are_terms an_are_terms cd_are_terms ct_are_terms), f_Form___init__ := f_Form___init__, d_Form___init__ := (PySem.W.fnOf "__init__" "Form.__init__" (defArgs st_Form___init__) (defBody st_Form___init__) (defScope st_Form___init__) (.ref dt_Form___init__) kV_Form___init__ dc_Form___init__ pm_Form___init__ an_Form___init__ cd_Form___init__ ct_Form___init__), f_form_of := f_form_of, d_form_of := (PySem.W.fnOf "form_of" "form_of" (defArgs st_form_of) (defBody st_form_of) (defScope st_form_of) .none kV_form_of dc_form_of pm_form_of an_form_of cd_form_of ct_form_of), f_Form___add__ := f_Form___add__, d_Form___add__ := (PySem.W.fnOf "__add__" "Form.__add__" (defArgs st_Form___add__) (defBody st_Form___add__) (defScope st_Form___add__) .none kV_Form___add__ dc_Form___add__ pm_Form___add__ an_Form___add__ cd_Form___add__ ct_Form___add__), f_Form___eq__ := f_Form___eq__, d_Form___eq__ := (PySem.W.fnOf "__eq__" "Form.__eq__" (defArgs st_Form___eq__) (defBody st_Form___eq__) (defScope st_Form___eq__) .none kV_Form___eq__ dc_Form___eq__ pm_Form___eq__ an_Form___eq__ cd_Form___eq__ ct_Form___eq__), f_Form___mul__ := f_Form___mul__, d_Form___mul__ := (PySem.W.fnOf "__mul__" "Form.__mul__" (defArgs st_Form___mul__) (defBody st_Form___mul__) (defScope st_Form___mul__) .none kV_Form___mul__ dc_Form___mul__ pm_Form___mul__ an_Form___mul__ cd_Form___mul__ ct_Form___mul__), f_Form___neg__ := f_Form___neg__, d_Form___neg__ := (PySem.W.fnOf "__neg__" "Form.__neg__" (defArgs st_Form___neg__) (defBody st_Form___neg__) (defScope st_Form___neg__) .none kV_Form___neg__ dc_Form___neg__ pm_Form___neg__ an_Form___neg__ cd_Form___neg__ ct_Form___neg__), f_Form___sub__ := f_Form___sub__, d_Form___sub__ := (PySem.W.fnOf "__sub__" "Form.__sub__" (defArgs st_Form___sub__) (defBody st_Form___sub__) (defScope st_Form___sub__) .none kV_Form___sub__ dc_Form___sub__ pm_Form___sub__ an_Form___sub__ cd_Form___sub__ ct_Form___sub__), f_shared_factor := f_shared_factor, d_shared_factor := (PySem.W.fnOf "shared_factor" "shared_factor" (defArgs st_shared_factor) (defBody st_shared_factor) (defScope st_shared_factor) .none kV_shared_factor dc_shared_factor pm_shared_factor an_shared_factor cd_shared_factor ct_shared_factor), f_Ratio___init__ := f_Ratio___init__, d_Ratio___init__ := (PySem.W.fnOf "__init__" "Ratio.__init__" (defArgs st_Ratio___init__) (defBody st_Ratio___init__) (defScope st_Ratio___init__) (.ref dt_Ratio___init__) kV_Ratio___init__ dc_Ratio___init__ pm_Ratio___init__ an_Ratio___init__ cd_Ratio___init__ ct_Ratio___init__), f_as_ratio := f_as_ratio, d_as_ratio := (PySem.W.fnOf "as_ratio" "as_ratio" (defArgs st_as_ratio) (defBody st_as_ratio) (defScope st_as_ratio) .none kV_as_ratio dc_as_ratio pm_as_ratio an_as_ratio cd_as_ratio ct_as_ratio), f_compared := f_compared, d_compared := (PySem.W.fnOf "compared" "compared" (defArgs st_compared) (defBody st_compared) (defScope st_compared) .none kV_compared dc_compared pm_compared an_compared cd_compared ct_compared), f_is_above := f_is_above, d_is_above := (PySem.W.fnOf "is_above" "is_above" (defArgs st_is_above) (defBody st_is_above) (defScope st_is_above) .none kV_is_above dc_is_above pm_is_above an_is_above cd_is_above ct_is_above), f_is_fraction := f_is_fraction, d_is_fraction := (PySem.W.fnOf "is_fraction" "is_fraction" (defArgs st_is_fraction) (defBody st_is_fraction) (defScope st_is_fraction) .none kV_is_fraction dc_is_fraction pm_is_fraction an_is_fraction cd_is_fraction ct_is_fraction), f_are_lengths := f_are_lengths, d_are_lengths := (PySem.W.fnOf "are_lengths" "are_lengths" (defArgs st_are_lengths) (defBody st_are_lengths) (defScope st_are_lengths) .none kV_are_lengths dc_are_lengths pm_are_lengths an_are_lengths cd_are_lengths ct_are_lengths), f_Ratio___add__ := f_Ratio___add__, d_Ratio___add__ := (PySem.W.fnOf "__add__" "Ratio.__add__" (defArgs st_Ratio___add__) (defBody st_Ratio___add__) (defScope st_Ratio___add__) .none kV_Ratio___add__ dc_Ratio___add__ pm_Ratio___add__ an_Ratio___add__ cd_Ratio___add__ ct_Ratio___add__), f_Ratio___mul__ := f_Ratio___mul__, d_Ratio___mul__ := (PySem.W.fnOf "__mul__" "Ratio.__mul__" (defArgs st_Ratio___mul__) (defBody st_Ratio___mul__) (defScope st_Ratio___mul__) .none kV_Ratio___mul__ dc_Ratio___mul__ pm_Ratio___mul__ an_Ratio___mul__ cd_Ratio___mul__ ct_Ratio___mul__), f_Ratio___rmul__ := f_Ratio___rmul__, d_Ratio___rmul__ := (PySem.W.fnOf "__rmul__" "Ratio.__rmul__" (defArgs st_Ratio___rmul__) (defBody st_Ratio___rmul__) (defScope st_Ratio___rmul__) .none kV_Ratio___rmul__ dc_Ratio___rmul__ pm_Ratio___rmul__ an_Ratio___rmul__ cd_Ratio___rmul__ ct_Ratio___rmul__), f_worth := f_worth, d_worth := (PySem.W.fnOf "worth" "worth" (defArgs st_worth) (defBody st_worth) (defScope st_worth) .none kV_worth dc_worth pm_worth an_worth cd_worth ct_worth), f_Form_at := f_Form_at, d_Form_at := (PySem.W.fnOf "at" "Form.at" (defArgs st_Form_at) (defBody st_Form_at) (defScope st_Form_at) .none kV_Form_at dc_Form_at pm_Form_at an_Form_at cd_Form_at ct_Form_at), f_Ratio___eq__ := f_Ratio___eq__, d_Ratio___eq__ := (PySem.W.fnOf "__eq__" "Ratio.__eq__" (defArgs st_Ratio___eq__) (defBody st_Ratio___eq__) (defScope st_Ratio___eq__) .none kV_Ratio___eq__ dc_Ratio___eq__ pm_Ratio___eq__ an_Ratio___eq__ cd_Ratio___eq__ ct_Ratio___eq__), f__law_added := f__law_added, d__law_added := (PySem.W.fnOf "_law_added" "_law_added" (defArgs st__law_added) (defBody st__law_added) (defScope st__law_added) .none kV__law_added dc__law_added pm__law_added an__law_added cd__law_added ct__law_added), f__law_draw := f__law_draw, d__law_draw := (PySem.W.fnOf "_law_draw" "_law_draw" (defArgs st__law_draw) (defBody st__law_draw) (defScope st__law_draw) .none kV__law_draw dc__law_draw pm__law_draw an__law_draw cd__law_draw ct__law_draw), f__law_one := f__law_one, d__law_one := (PySem.W.fnOf "_law_one" "_law_one" (defArgs st__law_one) (defBody st__law_one) (defScope st__law_one) .none kV__law_one dc__law_one pm__law_one an__law_one cd__law_one ct__law_one), f__law_drawn := f__law_drawn, d__law_drawn := (PySem.W.fnOf "_law_drawn" "_law_drawn" (defArgs st__law_drawn) (defBody st__law_drawn) (defScope st__law_drawn) .none kV__law_drawn dc__law_drawn pm__law_drawn an__law_drawn cd__law_drawn ct__law_drawn), f__law_pairs := f__law_pairs, d__law_pairs := (PySem.W.fnOf "_law_pairs" "_law_pairs" (defArgs st__law_pairs) (defBody st__law_pairs) (defScope st__law_pairs) .none kV__law_pairs dc__law_pairs pm__law_pairs an__law_pairs cd__law_pairs ct__law_pairs), f__law_due := f__law_due, d__law_due := (PySem.W.fnOf "_law_due" "_law_due" (defArgs st__law_due) (defBody st__law_due) (defScope st__law_due) .none kV__law_due dc__law_due pm__law_due an__law_due cd__law_due ct__law_due), f__law_shown := f__law_shown, d__law_shown := (PySem.W.fnOf "_law_shown" "_law_shown" (defArgs st__law_shown) (defBody st__law_shown) (defScope st__law_shown) .none kV__law_shown dc__law_shown pm__law_shown an__law_shown cd__law_shown ct__law_shown), f__law_right := f__law_right, d__law_right := (PySem.W.fnOf "_law_right" "_law_right" (defArgs st__law_right) (defBody st__law_right) (defScope st__law_right) .none kV__law_right dc__law_right pm__law_right an__law_right cd__law_right ct__law_right), f_law := fa, d_law := (PySem.W.fnOf "law" "law" (defArgs st_law) (defBody st_law) (defScope st_law) .none kV_law dc_law pm_law an_law cd_law ct_law), fo_Form_add := fo_Form_add, ro_Form_add := ro_Form_add, fo_Form_mul := fo_Form_mul, ro_Form_mul := ro_Form_mul, fo_Form_sub := fo_Form_sub, ro_Form_sub := ro_Form_sub, fo_Ratio_add := fo_Ratio_add, ro_Ratio_add := ro_Ratio_add, fo_Ratio_mul := fo_Ratio_mul, ro_Ratio_mul := ro_Ratio_mul, emp := e_emp }
  have cf_Form : CF K C_Form := ⟨⟨pg_Form, hd_Form, po_Form, sa_Form⟩, ha_Form, hn, ht, hm_Form,
    fun T hT => by simp only [List.mem_cons, List.not_mem_nil, or_false] at hT; rcases hT with rfl | rfl | rfl | rfl | rfl | rfl <;> assumption,
    fun T hT => by simp only [List.mem_cons, List.not_mem_nil, or_false] at hT; rcases hT with rfl | rfl | rfl | rfl | rfl | rfl | rfl <;> assumption,
    fun T hT => by simp only [List.mem_cons, List.not_mem_nil, or_false] at hT; rcases hT with rfl | rfl | rfl | rfl | rfl | rfl | rfl <;> assumption⟩
  have cf_Ratio : CF K C_Ratio := ⟨⟨pg_Ratio, hd_Ratio, po_Ratio, sa_Ratio⟩, ha_Ratio, hn, ht, hm_Ratio,
    fun T hT => by simp only [List.mem_cons, List.not_mem_nil, or_false] at hT; rcases hT with rfl | rfl | rfl | rfl | rfl | rfl <;> assumption,
    fun T hT => by simp only [List.mem_cons, List.not_mem_nil, or_false] at hT; rcases hT with rfl | rfl | rfl | rfl | rfl | rfl | rfl <;> assumption,
    fun T hT => by simp only [List.mem_cons, List.not_mem_nil, or_false] at hT; rcases hT with rfl | rfl | rfl | rfl | rfl | rfl | rfl <;> assumption⟩
  have kd : KD K A := by
    refine ⟨fun c hc => ?_, fun c hc c' hc' => ?_, fun c hc c' hc' => ?_⟩
    · simp only [A, List.mem_cons, List.not_mem_nil, or_false] at hc; rcases hc with rfl | rfl
      · exact cf_Ratio
      · exact cf_Form
    · simp only [A, List.mem_cons, List.not_mem_nil, or_false] at hc hc'; rcases hc with rfl | rfl <;> rcases hc' with rfl | rfl
      · show PySem.W.kitOne K (.ref C_Ratio) (.ref C_Ratio) = some true; unfold PySem.W.kitOne; simp
      · exact cc_Ratio_Form
      · exact cc_Form_Ratio
      · show PySem.W.kitOne K (.ref C_Form) (.ref C_Form) = some true; unfold PySem.W.kitOne; simp
    · simp only [A, List.mem_cons, List.not_mem_nil, or_false] at hc hc'; rcases hc with rfl | rfl <;> rcases hc' with rfl | rfl
      · exact nn_Ratio_Ratio
      · exact nn_Ratio_Form
      · exact nn_Form_Ratio
      · exact nn_Form_Form
  have T : Txt K mg A x := { kd := kd, in_Form := by simp [A], nl_Form := (by decide : (nmsOf 1).length ≤ 900), in_Ratio := by simp [A], nl_Ratio := (by decide : (nmsOf 0).length ≤ 900), F__law_bag := F__law_bag, b__law_bag := b__law_bag, F_are_small := F_are_small, b_are_small := b_are_small, F_is_integer := F_is_integer, b_is_integer := b_is_integer, F_are_terms := F_are_terms, b_are_terms := b_are_terms, F_Form___init__ := F_Form___init__, b_Form___init__ := b_Form___init__, F_form_of := F_form_of, b_form_of := b_form_of, F_Form___add__ := F_Form___add__, b_Form___add__ := b_Form___add__, F_Form___eq__ := F_Form___eq__, b_Form___eq__ := b_Form___eq__, F_Form___mul__ := F_Form___mul__, b_Form___mul__ := b_Form___mul__, F_Form___neg__ := F_Form___neg__, b_Form___neg__ := b_Form___neg__, F_Form___sub__ := F_Form___sub__, b_Form___sub__ := b_Form___sub__, F_shared_factor := F_shared_factor, b_shared_factor := b_shared_factor, F_Ratio___init__ := F_Ratio___init__, b_Ratio___init__ := b_Ratio___init__, F_as_ratio := F_as_ratio, b_as_ratio := b_as_ratio, F_compared := F_compared, b_compared := b_compared, F_is_above := F_is_above, b_is_above := b_is_above, F_is_fraction := F_is_fraction, b_is_fraction := b_is_fraction, F_are_lengths := F_are_lengths, b_are_lengths := b_are_lengths, F_Ratio___add__ := F_Ratio___add__, b_Ratio___add__ := b_Ratio___add__, F_Ratio___mul__ := F_Ratio___mul__, b_Ratio___mul__ := b_Ratio___mul__, F_Ratio___rmul__ := F_Ratio___rmul__, b_Ratio___rmul__ := b_Ratio___rmul__, F_worth := F_worth, b_worth := b_worth, F_Form_at := F_Form_at, b_Form_at := b_Form_at, F_Ratio___eq__ := F_Ratio___eq__, b_Ratio___eq__ := b_Ratio___eq__, F__law_added := F__law_added, b__law_added := b__law_added, F__law_draw := F__law_draw, b__law_draw := b__law_draw, F__law_one := F__law_one, b__law_one := b__law_one, F__law_drawn := F__law_drawn, b__law_drawn := b__law_drawn, F__law_pairs := F__law_pairs, b__law_pairs := b__law_pairs, F__law_due := F__law_due, b__law_due := b__law_due, F__law_shown := F__law_shown, b__law_shown := b__law_shown, F__law_right := F__law_right, b__law_right := b__law_right, F_law := F_law, b_law := b_law, g__law_added := PySem.W.mg_of X G a__law_added, g__law_bag := PySem.W.mg_of X G a__law_bag, g__law_draw := PySem.W.mg_of X G a__law_draw, g__law_drawn := PySem.W.mg_of X G a__law_drawn, g__law_due := PySem.W.mg_of X G a__law_due, g__law_one := PySem.W.mg_of X G a__law_one, g__law_pairs := PySem.W.mg_of X G a__law_pairs, g__law_right := PySem.W.mg_of X G a__law_right, g__law_shown := PySem.W.mg_of X G a__law_shown, g_are_lengths := PySem.W.mg_of X G a_are_lengths, g_are_small := PySem.W.mg_of X G a_are_small, g_are_terms := PySem.W.mg_of X G a_are_terms, g_as_ratio := PySem.W.mg_of X G a_as_ratio, g_compared := PySem.W.mg_of X G a_compared, g_form_of := PySem.W.mg_of X G a_form_of, g_is_above := PySem.W.mg_of X G a_is_above, g_is_fraction := PySem.W.mg_of X G a_is_fraction, g_is_integer := PySem.W.mg_of X G a_is_integer, g_shared_factor := PySem.W.mg_of X G a_shared_factor, g_worth := PySem.W.mg_of X G a_worth, n_abs := PySem.W.mg_none_of X G z_abs, n_all := PySem.W.mg_none_of X G z_all, n_bool := PySem.W.mg_none_of X G z_bool, n_dict := PySem.W.mg_none_of X G z_dict, n_int := PySem.W.mg_none_of X G z_int, n_isinstance := PySem.W.mg_none_of X G z_isinstance, n_len := PySem.W.mg_none_of X G z_len, n_list := PySem.W.mg_none_of X G z_list, n_max := PySem.W.mg_none_of X G z_max, n_min := PySem.W.mg_none_of X G z_min, n_range := PySem.W.mg_none_of X G z_range, n_sorted := PySem.W.mg_none_of X G z_sorted, n_str := PySem.W.mg_none_of X G z_str, n_tuple := PySem.W.mg_none_of X G z_tuple, g_Form := PySem.W.mg_of X G aC_Form, cl_Form := cf_Form.cl, sf_Form := sf_Form, int_Form := si_Form, sub_Form := sj_Form, mk_Form := ⟨mk_Form, a_Form___init__, i_Form___init__, kc_Form⟩, g_Ratio := PySem.W.mg_of X G aC_Ratio, cl_Ratio := cf_Ratio.cl, sf_Ratio := sf_Ratio, int_Ratio := si_Ratio, sub_Ratio := sj_Ratio, mk_Ratio := ⟨mk_Ratio, a_Ratio___init__, i_Ratio___init__, kc_Ratio⟩, fl_Form_constant := ⟨na_Form_constant, rfl, nms_nd 1⟩, fl_Form_names := ⟨na_Form_names, rfl, nms_nd 1⟩, fl_Form_terms := ⟨na_Form_terms, rfl, nms_nd 1⟩, fl_Ratio_bottom := ⟨na_Ratio_bottom, rfl, nms_nd 0⟩, fl_Ratio_top := ⟨na_Ratio_top, rfl, nms_nd 0⟩, m_Form_at := ⟨a_Form_at, i_Form_at, k_Form_at⟩, nm_Form_at := (by decide +kernel : ("at" : Str) ∉ nmsOf 1), o_Form_add := ⟨of_Form_add, i_Form___add__⟩, nr_Form_add := nr_Form_add, i1_Form_add := i1_Form_add, i2_Form_add := i2_Form_add, o_Form_mul := ⟨of_Form_mul, i_Form___mul__⟩, nr_Form_mul := nr_Form_mul, i1_Form_mul := i1_Form_mul, i2_Form_mul := i2_Form_mul, o_Form_sub := ⟨of_Form_sub, i_Form___sub__⟩, nr_Form_sub := nr_Form_sub, i1_Form_sub := i1_Form_sub, i2_Form_sub := i2_Form_sub, o_Ratio_add := ⟨of_Ratio_add, i_Ratio___add__⟩, o_Ratio_mul := ⟨of_Ratio_mul, i_Ratio___mul__⟩, r_Ratio_mul := ⟨sf_Ratio, of_Ratio_mul, or_Ratio_mul, i_Ratio___rmul__, i1_Ratio_mul, i2_Ratio_mul, fi_Ratio_mul, sj_Ratio⟩, o_Form_eq := ⟨a_Form___eq__, i_Form___eq__⟩, ne_Form := ne_Form, ob_Form := ob_Form, o_Ratio_eq := ⟨a_Ratio___eq__, i_Ratio___eq__⟩, ne_Ratio := ne_Ratio, ob_Ratio := ob_Ratio, o_Form_neg := ⟨a_Form___neg__, i_Form___neg__⟩, emp := fun {G} => .emp ee_emp ec_emp ei_emp ed_emp, kb_Form___init___0_terms_constant := kb_Form___init___0_terms_constant, kb_Form_at_0_lengths := kb_Form_at_0_lengths, bd_Form___init___1 := bd_Form___init___1, bd_Form___init___2 := bd_Form___init___2, bd_Ratio___init___1 := bd_Ratio___init___1 }
  exact ⟨_, fun s v => .of_eq rfl, fun base _ _ => ok_law T⟩
theorem walk {l : PySem.W.OpenLaw} {q : Program} {loose : List Str} {XP : (Str → Option Value) → Heap → Prop} {YP : World → Heap → Prop} {d : DefRec} {K : Params → PySem.W.Frag} (hn : l.most = some 63) (hdf : d.params.defaults = [])
    (hY : ∀ (w : World) (h : Heap), YP w h → (K w.params).In h)
    (F : ∀ (w : World) (mg : Str → Option Value) (fa : Addr) (h : Heap), (K w.params).In h → h.Ns mainGlobals mg → mg d.name = some (.ref fa) →
      ∃ fd : FuncData, (∀ (s : Shared) (u : Value), BindsTo s fd ⟨[u], []⟩ [("_law_cells", u)]) ∧ ∀ base : Heap, (K w.params).In base → base.Ns mainGlobals mg → FnOk l.prog w (K w.params) mg base (L2.CX l.prog w) 18 fa fd ["_law_cells"] (sp_law (K w.params))) :
    PySem.W.WalkO q loose XP YP l.row.toRowW d [] (fun f vs => PySem.call f vs) :=
  L2.walk_of (n := 63) (k := 18) (x := "_law_cells") (CX := fun w => L2.CX l.prog w) (sp := fun w => sp_law (K w.params)) hn (by decide) hdf ⟨rfl, by decide, by decide⟩ hY F (fun _ _ a ns hl _ hS => ⟨a, ns, rfl, hS, hl, fun _ => rfl⟩) fun _ _ _ _ _ h => by
    obtain ⟨_, _, _, _, _, _, _, _, _, _, _, _, z⟩ := h
    exact z
end DY
open PySem PySem.W PyProof.Rows
set_option maxRecDepth 100000 in
set_option maxHeartbeats 0 in
theorem PySem.Challenge.cw_slackstrings_k04_forms_reckoned_holds : PySem.Challenge.rw_slackstrings_k04_forms_reckoned.Holds := by
  w_on; o_law; k_head; (case hw => w_witness2)
  k_fill
  refine DY.walk (l := PySem.Challenge.rw_slackstrings_k04_forms_reckoned) rfl rfl (fun w h Y => PySem.W.kIn_of Y) ?F
  case F =>
    intro w mg fa h KX G hmg
    refine' DY.all_mk KX G hmg ?aC_Form ?aC_Ratio ?a__law_bag ?l__law_bag ?c__law_bag ?k__law_bag ?a_are_small ?l_are_small ?c_are_small ?k_are_small ?a_is_integer ?l_is_integer ?c_is_integer ?k_is_integer ?a_are_terms ?l_are_terms ?c_are_terms ?k_are_terms ?a_Form___init__ ?i_Form___init__ ?l_Form___init__ ?c_Form___init__ ?k_Form___init__ ?t_Form___init__ ?u_Form___init__ ?a_form_of ?l_form_of ?c_form_of ?k_form_of ?a_Form___add__ ?i_Form___add__ ?l_Form___add__ ?c_Form___add__ ?k_Form___add__ ?a_Form___eq__ ?i_Form___eq__ ?l_Form___eq__ ?c_Form___eq__ ?k_Form___eq__ ?a_Form___mul__ ?i_Form___mul__ ?l_Form___mul__ ?c_Form___mul__ ?k_Form___mul__ ?a_Form___neg__ ?i_Form___neg__ ?l_Form___neg__ ?c_Form___neg__ ?k_Form___neg__ ?a_Form___sub__ ?i_Form___sub__ ?l_Form___sub__ ?c_Form___sub__ ?k_Form___sub__ ?a_shared_factor ?l_shared_factor ?c_shared_factor ?k_shared_factor ?a_Ratio___init__ ?i_Ratio___init__ ?l_Ratio___init__ ?c_Ratio___init__ ?k_Ratio___init__ ?t_Ratio___init__ ?u_Ratio___init__ ?a_as_ratio ?l_as_ratio ?c_as_ratio ?k_as_ratio ?a_compared ?l_compared ?c_compared ?k_compared ?a_is_above ?l_is_above ?c_is_above ?k_is_above ?a_is_fraction ?l_is_fraction ?c_is_fraction ?k_is_fraction ?a_are_lengths ?l_are_lengths ?c_are_lengths ?k_are_lengths ?a_Ratio___add__ ?i_Ratio___add__ ?l_Ratio___add__ ?c_Ratio___add__ ?k_Ratio___add__ ?a_Ratio___mul__ ?i_Ratio___mul__ ?l_Ratio___mul__ ?c_Ratio___mul__ ?k_Ratio___mul__ ?a_Ratio___rmul__ ?i_Ratio___rmul__ ?l_Ratio___rmul__ ?c_Ratio___rmul__ ?k_Ratio___rmul__ ?a_worth ?l_worth ?c_worth ?k_worth ?a_Form_at ?i_Form_at ?l_Form_at ?c_Form_at ?k_Form_at ?a_Ratio___eq__ ?i_Ratio___eq__ ?l_Ratio___eq__ ?c_Ratio___eq__ ?k_Ratio___eq__ ?a__law_added ?l__law_added ?c__law_added ?k__law_added ?a__law_draw ?l__law_draw ?c__law_draw ?k__law_draw ?a__law_one ?l__law_one ?c__law_one ?k__law_one ?a__law_drawn ?l__law_drawn ?c__law_drawn ?k__law_drawn ?a__law_pairs ?l__law_pairs ?c__law_pairs ?k__law_pairs ?a__law_due ?l__law_due ?c__law_due ?k__law_due ?a__law_shown ?l__law_shown ?c__law_shown ?k__law_shown ?a__law_right ?l__law_right ?c__law_right ?k__law_right ?a_law ?l_law ?c_law ?k_law ?ee_emp ?ec_emp ?ei_emp ?ed_emp ?z_abs ?z_all ?z_bool ?z_dict ?z_int ?z_isinstance ?z_len ?z_list ?z_max ?z_min ?z_range ?z_sorted ?z_str ?z_tuple ?pg_Form ?hd_Form ?po_Form ?sa_Form ?mk_Form ?kc_Form ?sf_Form ?si_Form ?sj_Form ?ha_Form ?hm_Form ?kb_Form_int ?kb_Form_bool ?kb_Form_str ?kb_Form_tuple ?kb_Form_list ?kb_Form_dict ?kt_Form_NoneType ?nf_Form_NoneType ?kt_Form_bool ?nf_Form_bool ?kt_Form_int ?nf_Form_int ?kt_Form_str ?nf_Form_str ?kt_Form_list ?nf_Form_list ?kt_Form_tuple ?nf_Form_tuple ?kt_Form_dict ?nf_Form_dict ?nn_Form_Form ?cc_Form_Ratio ?nn_Form_Ratio ?pg_Ratio ?hd_Ratio ?po_Ratio ?sa_Ratio ?mk_Ratio ?kc_Ratio ?sf_Ratio ?si_Ratio ?sj_Ratio ?ha_Ratio ?hm_Ratio ?kb_Ratio_int ?kb_Ratio_bool ?kb_Ratio_str ?kb_Ratio_tuple ?kb_Ratio_list ?kb_Ratio_dict ?kt_Ratio_NoneType ?nf_Ratio_NoneType ?kt_Ratio_bool ?nf_Ratio_bool ?kt_Ratio_int ?nf_Ratio_int ?kt_Ratio_str ?nf_Ratio_str ?kt_Ratio_list ?nf_Ratio_list ?kt_Ratio_tuple ?nf_Ratio_tuple ?kt_Ratio_dict ?nf_Ratio_dict ?cc_Ratio_Form ?nn_Ratio_Form ?nn_Ratio_Ratio ?hn ?ht ?na_Form_constant ?na_Form_names ?na_Form_terms ?na_Ratio_bottom ?na_Ratio_top ?of_Form_add ?i1_Form_add ?i2_Form_add ?nr_Form_add ?of_Form_mul ?i1_Form_mul ?i2_Form_mul ?nr_Form_mul ?of_Form_sub ?i1_Form_sub ?i2_Form_sub ?nr_Form_sub ?of_Ratio_add ?i1_Ratio_add ?i2_Ratio_add ?of_Ratio_mul ?i1_Ratio_mul ?i2_Ratio_mul ?or_Ratio_mul ?fi_Ratio_mul ?ne_Form ?ob_Form ?ne_Ratio ?ob_Ratio
    (case aC_Form => k_is); (case aC_Ratio => k_is); (case a__law_bag => k_is); (case l__law_bag => k_is); (case c__law_bag => k_is); (case k__law_bag => k_is); (case a_are_small => k_is); (case l_are_small => k_is)
    (case c_are_small => k_is); (case k_are_small => k_is); (case a_is_integer => k_is); (case l_is_integer => k_is); (case c_is_integer => k_is); (case k_is_integer => k_is); (case a_are_terms => k_is); (case l_are_terms => k_is)
    (case c_are_terms => k_is); (case k_are_terms => k_is); (case a_Form___init__ => k_is); (case i_Form___init__ => k_is); (case l_Form___init__ => k_is); (case c_Form___init__ => k_is); (case k_Form___init__ => k_is); (case t_Form___init__ => k_is)
    (case u_Form___init__ => exact (.cons ⟨_, rfl⟩ (.cons rfl .nil))); (case a_form_of => k_is); (case l_form_of => k_is); (case c_form_of => k_is); (case k_form_of => k_is); (case a_Form___add__ => k_is); (case i_Form___add__ => k_is); (case l_Form___add__ => k_is)
    (case c_Form___add__ => k_is); (case k_Form___add__ => k_is); (case a_Form___eq__ => k_is); (case i_Form___eq__ => k_is); (case l_Form___eq__ => k_is); (case c_Form___eq__ => k_is); (case k_Form___eq__ => k_is); (case a_Form___mul__ => k_is)
    (case i_Form___mul__ => k_is); (case l_Form___mul__ => k_is); (case c_Form___mul__ => k_is); (case k_Form___mul__ => k_is); (case a_Form___neg__ => k_is); (case i_Form___neg__ => k_is); (case l_Form___neg__ => k_is); (case c_Form___neg__ => k_is)
    (case k_Form___neg__ => k_is); (case a_Form___sub__ => k_is); (case i_Form___sub__ => k_is); (case l_Form___sub__ => k_is); (case c_Form___sub__ => k_is); (case k_Form___sub__ => k_is); (case a_shared_factor => k_is); (case l_shared_factor => k_is)
    (case c_shared_factor => k_is); (case k_shared_factor => k_is); (case a_Ratio___init__ => k_is); (case i_Ratio___init__ => k_is); (case l_Ratio___init__ => k_is); (case c_Ratio___init__ => k_is); (case k_Ratio___init__ => k_is); (case t_Ratio___init__ => k_is)
    (case u_Ratio___init__ => exact (.cons ⟨_, rfl⟩ .nil)); (case a_as_ratio => k_is); (case l_as_ratio => k_is); (case c_as_ratio => k_is); (case k_as_ratio => k_is); (case a_compared => k_is); (case l_compared => k_is); (case c_compared => k_is)
    (case k_compared => k_is); (case a_is_above => k_is); (case l_is_above => k_is); (case c_is_above => k_is); (case k_is_above => k_is); (case a_is_fraction => k_is); (case l_is_fraction => k_is); (case c_is_fraction => k_is)
    (case k_is_fraction => k_is); (case a_are_lengths => k_is); (case l_are_lengths => k_is); (case c_are_lengths => k_is); (case k_are_lengths => k_is); (case a_Ratio___add__ => k_is); (case i_Ratio___add__ => k_is); (case l_Ratio___add__ => k_is)
    (case c_Ratio___add__ => k_is); (case k_Ratio___add__ => k_is); (case a_Ratio___mul__ => k_is); (case i_Ratio___mul__ => k_is); (case l_Ratio___mul__ => k_is); (case c_Ratio___mul__ => k_is); (case k_Ratio___mul__ => k_is); (case a_Ratio___rmul__ => k_is)
    (case i_Ratio___rmul__ => k_is); (case l_Ratio___rmul__ => k_is); (case c_Ratio___rmul__ => k_is); (case k_Ratio___rmul__ => k_is); (case a_worth => k_is); (case l_worth => k_is); (case c_worth => k_is); (case k_worth => k_is)
    (case a_Form_at => k_is); (case i_Form_at => k_is); (case l_Form_at => k_is); (case c_Form_at => k_is); (case k_Form_at => k_is); (case a_Ratio___eq__ => k_is); (case i_Ratio___eq__ => k_is); (case l_Ratio___eq__ => k_is)
    (case c_Ratio___eq__ => k_is); (case k_Ratio___eq__ => k_is); (case a__law_added => k_is); (case l__law_added => k_is); (case c__law_added => k_is); (case k__law_added => k_is); (case a__law_draw => k_is); (case l__law_draw => k_is)
    (case c__law_draw => k_is); (case k__law_draw => k_is); (case a__law_one => k_is); (case l__law_one => k_is); (case c__law_one => k_is); (case k__law_one => k_is); (case a__law_drawn => k_is); (case l__law_drawn => k_is)
    (case c__law_drawn => k_is); (case k__law_drawn => k_is); (case a__law_pairs => k_is); (case l__law_pairs => k_is); (case c__law_pairs => k_is); (case k__law_pairs => k_is); (case a__law_due => k_is); (case l__law_due => k_is)
    (case c__law_due => k_is); (case k__law_due => k_is); (case a__law_shown => k_is); (case l__law_shown => k_is); (case c__law_shown => k_is); (case k__law_shown => k_is); (case a__law_right => k_is); (case l__law_right => k_is)
    (case c__law_right => k_is); (case k__law_right => k_is); (case a_law => k_is); (case l_law => k_is); (case c_law => k_is); (case k_law => k_is); (case ee_emp => k_is); (case ec_emp => rfl)
    (case ei_emp => rfl); (case ed_emp => rfl); (case z_abs => k_is); (case z_all => k_is); (case z_bool => k_is); (case z_dict => k_is); (case z_int => k_is); (case z_isinstance => k_is)
    (case z_len => k_is); (case z_list => k_is); (case z_max => k_is); (case z_min => k_is); (case z_range => k_is); (case z_sorted => k_is); (case z_str => k_is); (case z_tuple => k_is)
    (case pg_Form => k_is); (case hd_Form => k_is); (case po_Form => k_is); (case sa_Form => k_is); (case mk_Form => k_is); (case kc_Form => k_is); (case sf_Form => k_is); (case si_Form => k_is)
    (case sj_Form => k_is); (case ha_Form => k_is); (case hm_Form => k_is); (case kb_Form_int => kit_is); (case kb_Form_bool => kit_is); (case kb_Form_str => kit_is); (case kb_Form_tuple => kit_is); (case kb_Form_list => kit_is)
    (case kb_Form_dict => kit_is); (case kt_Form_NoneType => kit_is); (case nf_Form_NoneType => k_is); (case kt_Form_bool => kit_is); (case nf_Form_bool => k_is); (case kt_Form_int => kit_is); (case nf_Form_int => k_is); (case kt_Form_str => kit_is)
    (case nf_Form_str => k_is); (case kt_Form_list => kit_is); (case nf_Form_list => k_is); (case kt_Form_tuple => kit_is); (case nf_Form_tuple => k_is); (case kt_Form_dict => kit_is); (case nf_Form_dict => k_is); (case nn_Form_Form => k_is)
    (case cc_Form_Ratio => kit_is); (case nn_Form_Ratio => k_is); (case pg_Ratio => k_is); (case hd_Ratio => k_is); (case po_Ratio => k_is); (case sa_Ratio => k_is); (case mk_Ratio => k_is); (case kc_Ratio => k_is)
    (case sf_Ratio => k_is); (case si_Ratio => k_is); (case sj_Ratio => k_is); (case ha_Ratio => k_is); (case hm_Ratio => k_is); (case kb_Ratio_int => kit_is); (case kb_Ratio_bool => kit_is); (case kb_Ratio_str => kit_is)
    (case kb_Ratio_tuple => kit_is); (case kb_Ratio_list => kit_is); (case kb_Ratio_dict => kit_is); (case kt_Ratio_NoneType => kit_is); (case nf_Ratio_NoneType => k_is); (case kt_Ratio_bool => kit_is); (case nf_Ratio_bool => k_is); (case kt_Ratio_int => kit_is)
    (case nf_Ratio_int => k_is); (case kt_Ratio_str => kit_is); (case nf_Ratio_str => k_is); (case kt_Ratio_list => kit_is); (case nf_Ratio_list => k_is); (case kt_Ratio_tuple => kit_is); (case nf_Ratio_tuple => k_is); (case kt_Ratio_dict => kit_is)
    (case nf_Ratio_dict => k_is); (case cc_Ratio_Form => kit_is); (case nn_Ratio_Form => k_is); (case nn_Ratio_Ratio => k_is); (case hn => k_is); (case ht => k_is); (case na_Form_constant => k_is); (case na_Form_names => k_is)
    (case na_Form_terms => k_is); (case na_Ratio_bottom => k_is); (case na_Ratio_top => k_is); (case of_Form_add => k_is); (case i1_Form_add => k_is); (case i2_Form_add => k_is); (case nr_Form_add => k_is); (case of_Form_mul => k_is)
    (case i1_Form_mul => k_is); (case i2_Form_mul => k_is); (case nr_Form_mul => k_is); (case of_Form_sub => k_is); (case i1_Form_sub => k_is); (case i2_Form_sub => k_is); (case nr_Form_sub => k_is); (case of_Ratio_add => k_is)
    (case i1_Ratio_add => k_is); (case i2_Ratio_add => k_is); (case of_Ratio_mul => k_is); (case i1_Ratio_mul => k_is); (case i2_Ratio_mul => k_is); (case or_Ratio_mul => k_is); (case fi_Ratio_mul => decide); (case ne_Form => k_is)
    (case ob_Form => k_is); (case ne_Ratio => k_is); (case ob_Ratio => k_is)
