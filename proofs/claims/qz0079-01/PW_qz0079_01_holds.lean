import PyProof.Rows.All
import Wide.All
import OpenK.AllK
import Wide.FinOn
import PySem.Challenge.RW_qz0079_01
set_option Elab.async false
set_option maxRecDepth 100000
set_option maxHeartbeats 8000000
set_option linter.all false
section PartQa
set_option maxRecDepth 100000
namespace Mine
open PyProof.Rows

/-- ten to the p -/
def ten (p : Int) : Int := 10 ^ p.toNat
theorem ten_pos (p : Int) : 0 < ten p := Int.pow_pos (by decide)
theorem ten_add {a b : Int} (ha : 0 ≤ a) (hb : 0 ≤ b) : ten (a + b) = ten a * ten b := by
  unfold ten; rw [Int.toNat_add ha hb, Int.pow_add]
theorem ten_zero : ten 0 = 1 := rfl
theorem ten_one : ten 1 = 10 := rfl
theorem ten_mono {a b : Int} (h : a ≤ b) : ten a ≤ ten b := by
  unfold ten
  have e : b.toNat = a.toNat + (b.toNat - a.toNat) := by omega
  rw [e, Int.pow_add]
  have h1 : (0 : Int) < 10 ^ a.toNat := Int.pow_pos (by decide)
  have h2 : (0 : Int) < 10 ^ (b.toNat - a.toNat) := Int.pow_pos (by decide)
  have := Int.mul_le_mul_of_nonneg_left (show (1 : Int) ≤ 10 ^ (b.toNat - a.toNat) by omega) (Int.le_of_lt h1)
  omega

/-- the pair is the canonical one of q -/
structure IsNF (t p : Int) (q : Rat) : Prop where
  nn : 0 ≤ p
  can : p = 0 ∨ t % 10 ≠ 0
  eq : q * (ten p : Rat) = (t : Rat)

theorem ten_ne (p : Int) : ((ten p : Int) : Rat) ≠ 0 := by
  intro h
  have h' : ((ten p : Int) : Rat) = ((0 : Int) : Rat) := h
  have := Rat.intCast_inj.mp h'
  have := ten_pos p
  omega

theorem nf_le {t p t' p' : Int} {q : Rat} (h : IsNF t p q) (h' : IsNF t' p' q) (hp : p ≤ p') : t = t' ∧ p = p' := by
  obtain ⟨n, c, e⟩ := h
  obtain ⟨n', c', e'⟩ := h'
  have ep : p' = p + (p' - p) := by omega
  have k : t' = t * ten (p' - p) := by
    apply Rat.intCast_inj.mp
    rw [← e', ep, ten_add n (by omega), Rat.intCast_mul, Rat.intCast_mul, ← e]
    rw [show p + (p' - p) - p = p' - p by omega]
    grind
  by_cases hlt : p = p'
  · subst hlt
    rw [show p - p = 0 by omega, ten_zero] at k
    exact ⟨by omega, rfl⟩
  · exfalso
    rw [show p' - p = 1 + (p' - p - 1) by omega, ten_add (by omega) (by omega), ten_one] at k
    have : t' % 10 = 0 := by
      rw [k, show t * (10 * ten (p' - p - 1)) = 10 * (t * ten (p' - p - 1)) by grind]
      exact Int.mul_emod_right _ _
    rcases c' with c' | c'
    · omega
    · exact c' this
theorem nf_uniq {t p t' p' : Int} {q : Rat} (h : IsNF t p q) (h' : IsNF t' p' q) : t = t' ∧ p = p' := by
  by_cases hp : p ≤ p'
  · exact nf_le h h' hp
  · have := nf_le h' h (by omega)
    exact ⟨this.1.symm, this.2.symm⟩

open Classical in
noncomputable def dpair (q : Rat) : Int × Int := if h : ∃ tp : Int × Int, IsNF tp.1 tp.2 q then h.choose else (0, 0)
noncomputable def dtop (q : Rat) : Int := (dpair q).1
noncomputable def dplc (q : Rat) : Int := (dpair q).2
theorem dpair_of {t p : Int} {q : Rat} (h : IsNF t p q) : dtop q = t ∧ dplc q = p := by
  have hx : ∃ tp : Int × Int, IsNF tp.1 tp.2 q := ⟨(t, p), h⟩
  have e : dpair q = hx.choose := by unfold dpair; rw [dif_pos hx]
  have := nf_uniq hx.choose_spec h
  unfold dtop dplc
  rw [e]
  exact this

/-- q is a decimal, its canonical pair within 10 ^ n -/
structure DecQ (q : Rat) (n : Nat) : Prop where
  nf : IsNF (dtop q) (dplc q) q
  lo : -(ten n) ≤ dtop q
  hi : dtop q ≤ ten n
  plc : dplc q ≤ n
theorem DecQ.nn {q : Rat} {n : Nat} (h : DecQ q n) : 0 ≤ dplc q := h.nf.nn
theorem DecQ.mono {q : Rat} {n n' : Nat} (h : DecQ q n) (hn : n ≤ n') : DecQ q n' := by
  have := ten_mono (show (n : Int) ≤ (n' : Int) by omega)
  have h1 := h.lo
  have h2 := h.hi
  have h3 := h.plc
  exact ⟨h.nf, by omega, by omega, by omega⟩

theorem decQ_of {t p : Int} {q : Rat} {n : Nat} (h : IsNF t p q) (hl : -(ten n) ≤ t) (hh : t ≤ ten n) (hp : p ≤ n) : DecQ q n ∧ dtop q = t ∧ dplc q = p := by
  obtain ⟨e1, e2⟩ := dpair_of h
  refine ⟨⟨?_, ?_, ?_, ?_⟩, e1, e2⟩ <;> simp only [e1, e2] <;> assumption

/-- within 10 ^ n -/
structure Bnd (t : Int) (n : Nat) : Prop where
  lo : -(ten n) ≤ t
  hi : t ≤ ten n
theorem DecQ.bnd {q : Rat} {n : Nat} (h : DecQ q n) : Bnd (dtop q) n := ⟨h.lo, h.hi⟩
theorem Bnd.mono {t : Int} {n n' : Nat} (h : Bnd t n) (hn : n ≤ n') : Bnd t n' := by
  have := ten_mono (show (n : Int) ≤ (n' : Int) by omega)
  have h1 := h.lo
  have h2 := h.hi
  exact ⟨by omega, by omega⟩
theorem bnd_abs {t : Int} {n : Nat} : Bnd t n ↔ t.natAbs ≤ 10 ^ n := by
  have e : ten n = ((10 ^ n : Nat) : Int) := by unfold ten; simp
  constructor
  · intro h
    have h1 := h.lo
    have h2 := h.hi
    rw [e] at h1 h2
    generalize 10 ^ n = x at *
    omega
  · intro h
    refine ⟨?_, ?_⟩ <;> rw [e] <;> generalize 10 ^ n = x at * <;> omega
theorem Bnd.mul {a b : Int} {n k : Nat} (ha : Bnd a n) (hb : Bnd b k) : Bnd (a * b) (n + k) := by
  rw [bnd_abs] at *
  rw [Int.natAbs_mul, Nat.pow_add]
  exact Nat.mul_le_mul ha hb
theorem ten_ge (n : Nat) : 1 ≤ 10 ^ n := Nat.pow_pos (by decide)
theorem Bnd.add {a b : Int} {n k : Nat} (ha : Bnd a n) (hb : Bnd b k) : Bnd (a + b) (n + k + 1) := by
  rw [bnd_abs] at *
  have h1 := ten_ge n
  have h2 := ten_ge k
  have h3 : 10 ^ (n + k + 1) = 10 * (10 ^ n * 10 ^ k) := by rw [Nat.pow_succ, Nat.pow_add, Nat.mul_comm]
  have h4 := Nat.mul_le_mul (Nat.le_refl (10 ^ n)) h2
  have h5 := Nat.mul_le_mul h1 (Nat.le_refl (10 ^ k))
  rw [h3]
  generalize 10 ^ n * 10 ^ k = z at *
  generalize 10 ^ n = x at *
  generalize 10 ^ k = y at *
  omega
theorem Bnd.add1 {a b : Int} {n : Nat} (ha : Bnd a n) (hb : Bnd b n) : Bnd (a + b) (n + 1) := by
  rw [bnd_abs] at *
  rw [Nat.pow_succ]
  generalize 10 ^ n = x at *
  omega
theorem Bnd.neg {a : Int} {n : Nat} (ha : Bnd a n) : Bnd (-a) n := by
  rw [bnd_abs] at *
  omega
theorem Bnd.sub {a b : Int} {n k : Nat} (ha : Bnd a n) (hb : Bnd b k) : Bnd (a - b) (n + k + 1) := by
  rw [Int.sub_eq_add_neg]; exact ha.add hb.neg
theorem Bnd.sub1 {a b : Int} {n : Nat} (ha : Bnd a n) (hb : Bnd b n) : Bnd (a - b) (n + 1) := by
  rw [Int.sub_eq_add_neg]; exact ha.add1 hb.neg
theorem Bnd.of_ten {e : Int} {k : Nat} (h : e ≤ k) : Bnd (ten e) k := ⟨by have := ten_pos e; have := ten_pos k; omega, ten_mono h⟩
theorem Bnd.pow (j : Nat) : Bnd (10 ^ j) j := ⟨by have := ten_pos j; show -(10 ^ j) ≤ 10 ^ j; have e : ten j = 10 ^ j := rfl; rw [e] at this; omega, Int.le_refl _⟩
theorem Bnd.fdiv {a b : Int} {n : Nat} (ha : Bnd a n) : Bnd (a.fdiv b) n := by
  rw [bnd_abs] at *
  refine Nat.le_trans ?_ ha
  rcases Int.lt_trichotomy b 0 with h | h | h
  · have e : a.fdiv b = (-a).fdiv (-b) := by rw [Int.neg_fdiv_neg]
    rw [e, Int.fdiv_eq_ediv_of_nonneg _ (by omega)]
    have := Int.natAbs_ediv_le_natAbs (-a) (-b)
    rw [Int.natAbs_neg] at this
    exact this
  · subst h; rw [Int.fdiv_zero]; exact Nat.zero_le _
  · rw [Int.fdiv_eq_ediv_of_nonneg _ (by omega)]
    exact Int.natAbs_ediv_le_natAbs a b
theorem Bnd.small {t : Int} {n : Nat} (h : -1000 ≤ t ∧ t ≤ 1000) (hn : 3 ≤ n) : Bnd t n :=
  Bnd.mono (n := 3) ⟨by show -1000 ≤ t; omega, by show t ≤ 1000; omega⟩ hn

theorem int_nf (k : Int) : IsNF k 0 (k : Rat) := ⟨Int.le_refl _, .inl rfl, by rw [ten_zero]; grind⟩
theorem dtop_int (k : Int) : dtop (k : Rat) = k := (dpair_of (int_nf k)).1
theorem dplc_int (k : Int) : dplc (k : Rat) = 0 := (dpair_of (int_nf k)).2

/-- the loop of the class's own making -/
theorem down_val {top pl : Int} : ∀ {k : Int}, k ≤ pl → 0 ≤ k → (∀ j, k < j → j ≤ pl → (accDown (fun _ x => Int.fdiv x 10) pl top j) % 10 = 0) → accDown (fun _ x => Int.fdiv x 10) pl top k * ten (pl - k) = top := by
  have key : ∀ (n : Nat) (k : Int), (pl - k).toNat = n → k ≤ pl → 0 ≤ k → (∀ j, k < j → j ≤ pl → (accDown (fun _ x => Int.fdiv x 10) pl top j) % 10 = 0) → accDown (fun _ x => Int.fdiv x 10) pl top k * ten (pl - k) = top := by
    intro n
    induction n with
    | zero =>
      intro k hn h1 h2 _
      have : k = pl := by omega
      subst this
      rw [accDown_start, show k - k = 0 by omega, ten_zero]; omega
    | succ n ih =>
      intro k hn h1 h2 h3
      have a := ih (k + 1) (by omega) (by omega) (by omega) (fun j hj => h3 j (by omega))
      have b := accDown_succ (g := fun _ x => Int.fdiv x 10) (k₀ := pl) (k := k + 1) (x₀ := top) (by omega)
      rw [show k + 1 - 1 = k by omega] at b
      have c := h3 (k + 1) (by omega) (by omega)
      rw [show pl - k = 1 + (pl - (k + 1)) by omega, ten_add (by omega) (by omega), ten_one, b]
      generalize accDown (fun _ x => Int.fdiv x 10) pl top (k + 1) = y at *
      have d : y.fdiv 10 * 10 = y := by
        rw [Int.fdiv_eq_ediv_of_nonneg _ (by decide)]
        omega
      rw [← Int.mul_assoc, d]; exact a
  intro k
  exact key _ k rfl

/-- a pair brought to the scale P -/
theorem scaled {q : Rat} {P : Int} (h : IsNF (dtop q) (dplc q) q) (hP : dplc q ≤ P) : ((dtop q * 10 ^ (P - dplc q).toNat : Int) : Rat) = q * (ten P : Rat) := by
  have e : P = dplc q + (P - dplc q) := by omega
  have e2 : (10 : Int) ^ (P - dplc q).toNat = ten (P - dplc q) := rfl
  rw [e2, Rat.intCast_mul, ← h.eq]
  conv => rhs; rw [e, ten_add h.nn (by omega), Rat.intCast_mul]
  grind
theorem of_scaled_add {q r : Rat} {A B P : Int} (ha : (A : Rat) = q * (ten P : Rat)) (hb : (B : Rat) = r * (ten P : Rat)) : ((A + B : Int) : Rat) / (ten P : Rat) = q + r := by
  have := ten_ne P
  rw [Rat.intCast_add, ha, hb]; grind
theorem of_scaled_sub {q r : Rat} {A B P : Int} (ha : (A : Rat) = q * (ten P : Rat)) (hb : (B : Rat) = r * (ten P : Rat)) : ((A - B : Int) : Rat) / (ten P : Rat) = q - r := by
  have := ten_ne P
  rw [Rat.intCast_sub, ha, hb]; grind
theorem ten_posQ (p : Int) : (0 : Rat) < (ten p : Rat) := by
  have := ten_pos p
  exact Rat.intCast_lt_intCast.mpr this
theorem cmp_eq {q r : Rat} {A B P : Int} (ha : (A : Rat) = q * (ten P : Rat)) (hb : (B : Rat) = r * (ten P : Rat)) (h : A - B = 0) : q = r := by
  have e : A = B := by omega
  have := ten_ne P
  rw [e] at ha
  rw [ha] at hb
  grind
theorem cmp_lt {q r : Rat} {A B P : Int} (ha : (A : Rat) = q * (ten P : Rat)) (hb : (B : Rat) = r * (ten P : Rat)) (h : A - B < 0) : q < r := by
  have e : (A : Rat) < (B : Rat) := Rat.intCast_lt_intCast.mpr (by omega)
  have := ten_posQ P
  rw [ha, hb] at e
  generalize (ten P : Rat) = T at *
  by_cases hq : q < r
  · exact hq
  · exfalso
    have h1 : r ≤ q := by grind
    have h2 : r * T ≤ q * T := Rat.mul_le_mul_of_nonneg_right h1 (by grind)
    grind
theorem of_times {q r : Rat} {n k : Nat} (hq : DecQ q n) (hr : DecQ r k) : ((dtop q * dtop r : Int) : Rat) / (ten (dplc q + dplc r) : Rat) = q * r := by
  rw [ten_add hq.nn hr.nn, Rat.intCast_mul, Rat.intCast_mul, ← hq.nf.eq, ← hr.nf.eq]
  have := ten_ne (dplc q)
  have := ten_ne (dplc r)
  grind

/-- lengths that the law's own can be -/
def Nice (Y : Int) : Prop := Y.natAbs ∣ 400
theorem nice_tab : ∀ R < 401, R ∣ 400 → 0 < R ∧ (1 % R ≠ 0 → 2 ≤ R) ∧ (10 % R ≠ 0 → 4 ≤ R) ∧ (100 % R ≠ 0 → 8 ≤ R) ∧ (1000 % R ≠ 0 → 16 ≤ R) ∧ 10000 % R = 0 := by decide +kernel
structure NiceTab (R : Int) : Prop where
  pos : 0 < R
  t1 : (1 : Int) % R ≠ 0 → 2 ≤ R
  t2 : (10 : Int) % R ≠ 0 → 4 ≤ R
  t3 : (100 : Int) % R ≠ 0 → 8 ≤ R
  t4 : (1000 : Int) % R ≠ 0 → 16 ≤ R
  t5 : (10000 : Int) % R = 0
theorem nice_yes {R j : Int} (t : NiceTab R) (h : ((10 ^ j.toNat : Int).fmod R != 0) = true) (h0 : 0 ≤ j ∧ j ≤ 4) : 2 ^ (j + 1).toNat ≤ R ∧ j < 4 := by
  have h' : (10 ^ j.toNat : Int) % R ≠ 0 := by
    rw [← Int.fmod_eq_emod_of_nonneg _ (Int.le_of_lt t.pos)]
    simpa using h
  have hc : j = 0 ∨ j = 1 ∨ j = 2 ∨ j = 3 ∨ j = 4 := by omega
  rcases hc with rfl | rfl | rfl | rfl | rfl
  · exact ⟨t.t1 h', by omega⟩
  · exact ⟨t.t2 h', by omega⟩
  · exact ⟨t.t3 h', by omega⟩
  · exact ⟨t.t4 h', by omega⟩
  · exact absurd t.t5 h'
theorem nice_no {R j : Int} (t : NiceTab R) (h : ((10 ^ j.toNat : Int).fmod R != 0) = false) : (10 : Int) ^ j.toNat % R = 0 := by
  rw [← Int.fmod_eq_emod_of_nonneg _ (Int.le_of_lt t.pos)]
  simpa using h
theorem nice_le {Y : Int} (h : Nice Y) : -400 ≤ Y ∧ Y ≤ 400 := by
  have : Y.natAbs ≤ 400 := Nat.le_of_dvd (by decide) h
  omega
theorem nice_ne {Y : Int} (h : Nice Y) : Y ≠ 0 := by
  intro e; subst e
  exact absurd (Nat.eq_zero_of_zero_dvd h) (by decide)
theorem nice_parts {X Y : Int} (h : Nice Y) : ∃ g R : Int, g = (Int.gcd X Y : Int) ∧ 0 < g ∧ (if Y < 0 then -Y else Y) = R * g ∧ 0 < R ∧ R ≤ 400 ∧ g ≤ 400 ∧
    ((1 : Int) % R ≠ 0 → 2 ≤ R) ∧ ((10 : Int) % R ≠ 0 → 4 ≤ R) ∧ ((100 : Int) % R ≠ 0 → 8 ≤ R) ∧ ((1000 : Int) % R ≠ 0 → 16 ≤ R) ∧ (10000 : Int) % R = 0 := by
  have hY := nice_ne h
  have hg : 0 < Nat.gcd X.natAbs Y.natAbs := Nat.gcd_pos_of_pos_right _ (by omega)
  obtain ⟨R, hR⟩ := Nat.gcd_dvd_right X.natAbs Y.natAbs
  have hd : R ∣ 400 := Nat.dvd_trans ⟨_, by rw [Nat.mul_comm]; exact hR⟩ h
  have hle : R ≤ 400 := Nat.le_of_dvd (by decide) hd
  obtain ⟨t0, t1, t2, t3, t4, t5⟩ := nice_tab R (by omega) hd
  have c1 : (1 : Int) % (R : Int) = ((1 % R : Nat) : Int) := (Int.natCast_emod 1 R).symm
  have c2 : (10 : Int) % (R : Int) = ((10 % R : Nat) : Int) := (Int.natCast_emod 10 R).symm
  have c3 : (100 : Int) % (R : Int) = ((100 % R : Nat) : Int) := (Int.natCast_emod 100 R).symm
  have c4 : (1000 : Int) % (R : Int) = ((1000 % R : Nat) : Int) := (Int.natCast_emod 1000 R).symm
  have c5 : (10000 : Int) % (R : Int) = ((10000 % R : Nat) : Int) := (Int.natCast_emod 10000 R).symm
  
  have hg4 : Nat.gcd X.natAbs Y.natAbs ≤ 400 := Nat.le_trans (Nat.le_of_dvd (by omega) (Nat.gcd_dvd_right X.natAbs Y.natAbs)) (Nat.le_of_dvd (by decide) h)
  refine ⟨_, (R : Int), rfl, ?_, ?_, ?_, ?_, ?_, ?_, ?_, ?_, ?_, ?_⟩ <;> (try rw [c1]) <;> (try rw [c2]) <;> (try rw [c3]) <;> (try rw [c4]) <;> (try rw [c5])
  · exact Int.ofNat_lt.mpr hg
  · have e : (if Y < 0 then -Y else Y) = (Y.natAbs : Int) := by split <;> omega
    rw [e, hR, Int.natCast_mul, Int.mul_comm]; rfl
  · exact Int.ofNat_lt.mpr t0
  · exact Int.ofNat_le.mpr hle
  · exact Int.ofNat_le.mpr hg4
  · exact fun z => Int.ofNat_le.mpr (t1 (fun e => z (congrArg _ e)))
  · exact fun z => Int.ofNat_le.mpr (t2 (fun e => z (congrArg _ e)))
  · exact fun z => Int.ofNat_le.mpr (t3 (fun e => z (congrArg _ e)))
  · exact fun z => Int.ofNat_le.mpr (t4 (fun e => z (congrArg _ e)))
  · exact congrArg _ t5
theorem int_scaledP {X Y P : Int} (eP : P = (if dplc (Y : Rat) > dplc (X : Rat) then dplc (Y : Rat) else dplc (X : Rat))) : P = 0 := by
  rw [dplc_int, dplc_int] at eP
  simpa using eP
theorem int_scaledA {X A P : Int} (eA : (A : Rat) = (X : Rat) * (ten P : Rat)) (eP : P = 0) : A = X := by
  subst eP
  rw [ten_zero] at eA
  apply Rat.intCast_inj.mp
  rw [eA]
  have : ((1 : Int) : Rat) = 1 := rfl
  rw [this]; grind
/-- by how much a length y is stretched to be x -/
noncomputable def strq (y x : Int) : Rat := if y = 0 then 1 else (x : Rat) / (y : Rat)
/-- the quotient that is written out -/
theorem quot_eq {X Y g R j : Int} (hY : Y ≠ 0) (eg : g = (Int.gcd X Y : Int)) (eR : (if Y < 0 then -Y else Y) = R * g) (hk : (10 : Int) ^ j.toNat % R = 0) : (((X * 10 ^ j.toNat).fdiv Y : Int) : Rat) / (ten j : Rat) = (X : Rat) / (Y : Rat) := by
  have n1 : ((10 ^ j.toNat : Int) : Rat) ≠ 0 := ten_ne j
  show (((X * 10 ^ j.toNat).fdiv Y : Int) : Rat) / ((10 ^ j.toNat : Int) : Rat) = (X : Rat) / (Y : Rat)
  generalize j.toNat = k at *
  obtain ⟨u, hu⟩ := Int.dvd_of_emod_eq_zero hk
  obtain ⟨v, hv⟩ : g ∣ X := by rw [eg]; exact Int.gcd_dvd_left ..
  have hd : Y ∣ X * 10 ^ k := by
    have h1 : (if Y < 0 then -Y else Y) ∣ X * 10 ^ k := ⟨u * v, by rw [eR, hu, hv]; grind⟩
    split at h1
    · exact Int.neg_dvd.mp h1
    · exact h1
  obtain ⟨z, hz⟩ := hd
  have e1 : (X * 10 ^ k).fdiv Y = z := by rw [hz]; exact Int.mul_fdiv_cancel_left _ hY
  rw [e1]
  have e2 : (X : Rat) * ((10 ^ k : Int) : Rat) = (Y : Rat) * (z : Rat) := by
    rw [← Rat.intCast_mul, ← Rat.intCast_mul, hz]
  have n2 : (Y : Rat) ≠ 0 := fun h => hY (Rat.intCast_inj.mp h)
  clear hu hk e1 hz eR eg
  generalize ((10 ^ k : Int) : Rat) = T at *
  grind
theorem fmod10 (x : Int) : x.fmod 10 = x % 10 := Int.fmod_eq_emod_of_nonneg _ (by decide)

theorem made_nf {top pl k : Int} (h0 : 0 ≤ pl) (h1 : k ≤ pl) (h2 : min pl 0 ≤ k)
    (h3 : ∀ j, k < j → j ≤ pl → (if 0 < j then if ((accDown (fun _ x => Int.fdiv x 10) pl top j).fmod 10 == 0) = true then true else false else false) = true)
    (h4 : (if 0 < k then if ((accDown (fun _ x => Int.fdiv x 10) pl top k).fmod 10 == 0) = true then true else false else false) = false) :
    IsNF (accDown (fun _ x => Int.fdiv x 10) pl top k) k ((top : Rat) / (ten pl : Rat)) := by
  have hk : 0 ≤ k := by omega
  have e := down_val (top := top) h1 hk (fun j ha hb => by
    have := h3 j ha hb
    rw [if_pos (by omega)] at this
    rw [← fmod10]
    simpa using this)
  refine ⟨hk, ?_, ?_⟩
  · by_cases hz : k = 0
    · exact .inl hz
    · refine .inr ?_
      rw [if_pos (by omega)] at h4
      rw [← fmod10]
      simpa using h4
  · have e2 : ten pl = ten k * ten (pl - k) := by
      rw [← ten_add hk (by omega), show k + (pl - k) = pl by omega]
    have n1 := ten_ne k
    have n2 := ten_ne (pl - k)
    generalize accDown (fun _ x => Int.fdiv x 10) pl top k = y at *
    rw [← e, e2, Rat.intCast_mul, Rat.intCast_mul]
    grind

theorem nf_bound {t p top pl : Int} {n : Nat} (h : IsNF t p ((top : Rat) / (ten pl : Rat))) (hp : p ≤ pl) (hl : -(ten n) ≤ top) (hh : top ≤ ten n) : -(ten n) ≤ t ∧ t ≤ ten n := by
  have e : t * ten (pl - p) = top := by
    apply Rat.intCast_inj.mp
    have e2 : ten pl = ten p * ten (pl - p) := by
      rw [← ten_add h.nn (by omega), show p + (pl - p) = pl by omega]
    have := h.eq
    have n1 := ten_ne p
    have n2 := ten_ne (pl - p)
    rw [e2] at this
    rw [Rat.intCast_mul] at this ⊢
    grind
  have hpos := ten_pos (pl - p)
  generalize ten (pl - p) = u at *
  have h1 : t ≤ ten n := by
    by_cases ht : 0 ≤ t
    · have := Int.mul_le_mul_of_nonneg_left (show 1 ≤ u by omega) ht
      omega
    · have := ten_pos n
      omega
  have h2 : -(ten n) ≤ t := by
    by_cases ht : 0 ≤ t
    · have := ten_pos n
      omega
    · have := Int.mul_le_mul_of_nonneg_left (show 1 ≤ u by omega) (show 0 ≤ -t by omega)
      have e3 : -t * u = -(t * u) := by grind
      omega
  exact ⟨h2, h1⟩

theorem div_ten0 (k : Int) : (k : Rat) / (ten 0 : Rat) = (k : Rat) := by
  rw [ten_zero]
  have : ((1 : Int) : Rat) = 1 := rfl
  rw [this]; grind
/-- what the class makes of top and places -/
theorem made {top pl k : Int} {n : Nat} (h0 : 0 ≤ pl) (h1 : k ≤ pl) (h2 : min pl 0 ≤ k)
    (h3 : ∀ j, k < j → j ≤ pl → (if 0 < j then if ((accDown (fun _ x => Int.fdiv x 10) pl top j).fmod 10 == 0) = true then true else false else false) = true)
    (h4 : (if 0 < k then if ((accDown (fun _ x => Int.fdiv x 10) pl top k).fmod 10 == 0) = true then true else false else false) = false)
    (hb : Bnd top n) (hp : pl ≤ n) :
    DecQ ((top : Rat) / (ten pl : Rat)) n ∧ dtop ((top : Rat) / (ten pl : Rat)) = accDown (fun _ x => Int.fdiv x 10) pl top k ∧ dplc ((top : Rat) / (ten pl : Rat)) = k :=
  have nf := made_nf h0 h1 h2 h3 h4
  have b := nf_bound nf h1 hb.lo hb.hi
  decQ_of nf b.1 b.2 (by omega)
end Mine
end PartQa
section PartQb
namespace Mine
theorem cast_min (a b : Int) : ((min a b : Int) : Rat) = min (a : Rat) (b : Rat) := by
  by_cases h : a ≤ b
  · have h1 := Rat.intCast_le_intCast.mpr h
    rw [Int.min_eq_left h]; grind
  · have h1 := Rat.intCast_le_intCast.mpr (show b ≤ a by omega)
    rw [Int.min_eq_right (by omega)]; grind
theorem cast_max (a b : Int) : ((max a b : Int) : Rat) = max (a : Rat) (b : Rat) := by
  by_cases h : a ≤ b
  · have h1 := Rat.intCast_le_intCast.mpr h
    rw [Int.max_eq_right h]; grind
  · have h1 := Rat.intCast_le_intCast.mpr (show b ≤ a by omega)
    rw [Int.max_eq_left (by omega)]; grind
/-- the least coordinate of a box that is carried over -/
def lowOf (p q o a b c d : Int) : Int := min (min (min (p * a + q * b + o) (p * c + q * b + o)) (p * c + q * d + o)) (p * a + q * d + o)
def highOf (p q o a b c d : Int) : Int := max (max (max (p * a + q * b + o) (p * c + q * b + o)) (p * c + q * d + o)) (p * a + q * d + o)
def spanOf (p q o a b c d : Int) : Int := highOf p q o a b c d - lowOf p q o a b c d
theorem low_cast (p q o a b c d : Int) : min (min (min ((p : Rat) * a + q * b + o) (p * c + q * b + o)) (p * c + q * d + o)) (p * a + q * d + o) = ((lowOf p q o a b c d : Int) : Rat) := by
  unfold lowOf
  simp only [cast_min, Rat.intCast_add, Rat.intCast_mul]
theorem high_cast (p q o a b c d : Int) : max (max (max ((p : Rat) * a + q * b + o) (p * c + q * b + o)) (p * c + q * d + o)) (p * a + q * d + o) = ((highOf p q o a b c d : Int) : Rat) := by
  unfold highOf
  simp only [cast_max, Rat.intCast_add, Rat.intCast_mul]
theorem span_cast (p q o a b c d : Int) : max (max (max ((p : Rat) * a + q * b + o) (p * c + q * b + o)) (p * c + q * d + o)) (p * a + q * d + o) - min (min (min ((p : Rat) * a + q * b + o) (p * c + q * b + o)) (p * c + q * d + o)) (p * a + q * d + o) = ((spanOf p q o a b c d : Int) : Rat) := by
  rw [low_cast, high_cast]
  unfold spanOf
  rw [Rat.intCast_sub]
/-- the matrix that places a form: the frame a b c d, the form's matrix, the target -/
structure IsAM (fa fb fc fd ma mb mc md me mf ta tb tc td : Int) (qa qb qc qd qe qf : Rat) : Prop where
  a : qa = ma * strq (spanOf ma mc me fa fb fc fd) (tc - ta)
  b : qb = mb * strq (spanOf mb md mf fa fb fc fd) (td - tb)
  c : qc = mc * strq (spanOf ma mc me fa fb fc fd) (tc - ta)
  d : qd = md * strq (spanOf mb md mf fa fb fc fd) (td - tb)
  e : qe = strq (spanOf ma mc me fa fb fc fd) (tc - ta) * me + (ta - lowOf ma mc me fa fb fc fd * strq (spanOf ma mc me fa fb fc fd) (tc - ta))
  f : qf = strq (spanOf mb md mf fa fb fc fd) (td - tb) * mf + (tb - lowOf mb md mf fa fb fc fd * strq (spanOf mb md mf fa fb fc fd) (td - tb))
theorem isAM_of {fa fb fc fd ma mb mc md me mf ta tb tc td x y x2 y2 : Int} {A B C D E F : Rat} (hx : x = spanOf ma mc me fa fb fc fd) (hy : y = spanOf mb md mf fa fb fc fd) (hx2 : x2 = tc - ta) (hy2 : y2 = td - tb)
    (ea : A = (ma : Rat) * (strq x x2) + mb * (((0 : Int) : Rat))) (eb : B = (ma : Rat) * (((0 : Int) : Rat)) + mb * (strq y y2)) (ec : C = (mc : Rat) * (strq x x2) + md * (((0 : Int) : Rat))) (ed : D = (mc : Rat) * (((0 : Int) : Rat)) + md * (strq y y2))
    (ee : E = (strq x x2) * me + (((0 : Int) : Rat)) * mf + ((ta - ((lowOf ma mc me fa fb fc fd : Int) : Rat) * strq x x2))) (ef : F = (((0 : Int) : Rat)) * me + (strq y y2) * mf + ((tb - ((lowOf mb md mf fa fb fc fd : Int) : Rat) * strq y y2))) :
    IsAM fa fb fc fd ma mb mc md me mf ta tb tc td A B C D E F := by
  subst hx hy hx2 hy2
  have z : ((0 : Int) : Rat) = 0 := rfl
  rw [z] at ea eb ec ed ee ef
  refine ⟨?_, ?_, ?_, ?_, ?_, ?_⟩
  · rw [ea]; grind
  · rw [eb]; grind
  · rw [ec]; grind
  · rw [ed]; grind
  · rw [ee]; grind
  · rw [ef]; grind
section
variable {fa fb fc fd ma mb mc md me mf ta tb tc td : Int} {qa qb qc qd qe qf ra rb rc rd re rf : Rat}
theorem am_same (h : IsAM fa fb fc fd ma mb mc md me mf ta tb tc td qa qb qc qd qe qf) (h' : IsAM fa fb fc fd ma mb mc md me mf ta tb tc td ra rb rc rd re rf) : ra = qa ∧ rb = qb ∧ rc = qc ∧ rd = qd ∧ re = qe ∧ rf = qf :=
  ⟨h'.a.trans h.a.symm, h'.b.trans h.b.symm, h'.c.trans h.c.symm, h'.d.trans h.d.symm, h'.e.trans h.e.symm, h'.f.trans h.f.symm⟩
theorem am_shift {x y : Int} (h : IsAM fa fb fc fd ma mb mc md me mf ta tb tc td qa qb qc qd qe qf) (h' : IsAM fa fb fc fd ma mb mc md me mf (ta + x) (tb + y) (tc + x) (td + y) ra rb rc rd re rf) : ra = qa ∧ rb = qb ∧ rc = qc ∧ rd = qd ∧ re = qe + x ∧ rf = qf + y := by
  have e1 : (tc + x) - (ta + x) = tc - ta := by omega
  have e2 : (td + y) - (tb + y) = td - tb := by omega
  have ha := h'.a; have hb := h'.b; have hc := h'.c; have hd := h'.d; have he := h'.e; have hf := h'.f
  rw [e1] at ha hc he
  rw [e2] at hb hd hf
  refine ⟨ha.trans h.a.symm, hb.trans h.b.symm, hc.trans h.c.symm, hd.trans h.d.symm, ?_, ?_⟩
  · rw [he, h.e, Rat.intCast_add]; grind
  · rw [hf, h.f, Rat.intCast_add]; grind
theorem low_scale {p q a b c d t : Int} (ht : 0 ≤ t) : lowOf p q 0 (a * t) (b * t) (c * t) (d * t) = lowOf p q 0 a b c d * t := by
  have e : ∀ u v : Int, p * (u * t) + q * (v * t) + 0 = (p * u + q * v + 0) * t := by intro u v; grind
  have k : ∀ u v : Int, min (u * t) (v * t) = min u v * t := by
    intro u v
    by_cases h : u ≤ v
    · rw [Int.min_eq_left h, Int.min_eq_left (Int.mul_le_mul_of_nonneg_right h ht)]
    · have h2 : v * t ≤ u * t := Int.mul_le_mul_of_nonneg_right (by omega) ht
      rw [Int.min_eq_right h2, Int.min_eq_right (by omega)]
  unfold lowOf
  simp only [e, k]
theorem high_scale {p q a b c d t : Int} (ht : 0 ≤ t) : highOf p q 0 (a * t) (b * t) (c * t) (d * t) = highOf p q 0 a b c d * t := by
  have e : ∀ u v : Int, p * (u * t) + q * (v * t) + 0 = (p * u + q * v + 0) * t := by intro u v; grind
  have k : ∀ u v : Int, max (u * t) (v * t) = max u v * t := by
    intro u v
    by_cases h : u ≤ v
    · rw [Int.max_eq_right h, Int.max_eq_right (Int.mul_le_mul_of_nonneg_right h ht)]
    · have h2 : v * t ≤ u * t := Int.mul_le_mul_of_nonneg_right (by omega) ht
      rw [Int.max_eq_left h2, Int.max_eq_left (by omega)]
  unfold highOf
  simp only [e, k]
theorem span_scale {p q a b c d t : Int} (ht : 0 ≤ t) : spanOf p q 0 (a * t) (b * t) (c * t) (d * t) = spanOf p q 0 a b c d * t := by
  unfold spanOf
  rw [low_scale ht, high_scale ht]; grind
theorem str_scale {x w t : Int} (hx : x ≠ 0) (ht : 0 < t) : strq (x * t) w * t = strq x w := by
  have h1 : x * t ≠ 0 := Int.mul_ne_zero hx (by omega)
  have n1 : (x : Rat) ≠ 0 := fun h => hx (Rat.intCast_inj.mp h)
  have n2 : (t : Rat) ≠ 0 := fun h => (show t ≠ 0 by omega) (Rat.intCast_inj.mp h)
  unfold strq
  rw [if_neg h1, if_neg hx, Rat.intCast_mul]
  grind
/-- a point of the form's, so many times as great, lands where it did -/
theorem am_great {t : Int} (ht : 0 < t) (hx : spanOf ma mc 0 fa fb fc fd ≠ 0) (hy : spanOf mb md 0 fa fb fc fd ≠ 0) (h : IsAM fa fb fc fd ma mb mc md 0 0 ta tb tc td qa qb qc qd qe qf)
    (h' : IsAM (fa * t) (fb * t) (fc * t) (fd * t) ma mb mc md 0 0 ta tb tc td ra rb rc rd re rf) (u v : Int) :
    ra * ((u * t : Int) : Rat) + rc * ((v * t : Int) : Rat) + re = qa * u + qc * v + qe ∧ rb * ((u * t : Int) : Rat) + rd * ((v * t : Int) : Rat) + rf = qb * u + qd * v + qf := by
  have ha := h'.a; have hb := h'.b; have hc := h'.c; have hd := h'.d; have he := h'.e; have hf := h'.f
  rw [span_scale (by omega)] at ha hb hc hd he hf
  rw [low_scale (by omega)] at he hf
  have sx := str_scale (w := tc - ta) hx ht
  have sy := str_scale (w := td - tb) hy ht
  have z : ((0 : Int) : Rat) = 0 := rfl
  have ga := h.a; have gb := h.b; have gc := h.c; have gd := h.d; have ge := h.e; have gf := h.f
  rw [← sx] at ga gc ge
  rw [← sy] at gb gd gf
  rw [z] at ge gf he hf
  rw [Rat.intCast_mul] at he hf
  rw [Rat.intCast_mul, Rat.intCast_mul]
  clear sx sy hx hy h h'
  generalize strq (spanOf ma mc 0 fa fb fc fd * t) (tc - ta) = S at *
  generalize strq (spanOf mb md 0 fa fb fc fd * t) (td - tb) = R at *
  subst ha hb hc hd he hf ga gb gc gd ge gf
  constructor <;> grind
end
end Mine
namespace Mine
structure Box4 (a b c d : Int) : Prop where
  ba : Bnd a 3
  bb : Bnd b 3
  bc : Bnd c 3
  bd : Bnd d 3
  hac : a ≤ c
  hbd : b ≤ d
structure Mat6 (a b c d e f : Int) : Prop where
  ba : Bnd a 3
  bb : Bnd b 3
  bc : Bnd c 3
  bd : Bnd d 3
  be : Bnd e 3
  bf : Bnd f 3
theorem sub_cast (a b : Int) : (a : Rat) - (b : Rat) = ((a - b : Int) : Rat) := (Rat.intCast_sub _ _).symm
end Mine
end PartQb
section PartQc
namespace Mine
/-- what the law has drawn -/
structure Draws (fa fb fc fd wd hg ma mb mc md me mf ta tb tc td : Int) : Prop where
  pfa : -3 ≤ fa ∧ fa ≤ 3
  pfb : -3 ≤ fb ∧ fb ≤ 3
  pwd : wd = 1 ∨ wd = 2 ∨ wd = 4 ∨ wd = 5 ∨ wd = 10 ∨ wd = 0
  phg : hg = 1 ∨ hg = 2 ∨ hg = 4 ∨ hg = 5 ∨ hg = 10 ∨ hg = 0
  pfc : fc = fa + wd
  pfd : fd = fb + hg
  pmt : (ma = 1 ∧ mb = 0 ∧ mc = 0 ∧ md = 1 ∧ me = 0 ∧ mf = 0) ∨ (ma = 0 ∧ mb = 1 ∧ mc = -1 ∧ md = 0 ∧ me = 3 ∧ mf = 4) ∨ (ma = 2 ∧ mb = 0 ∧ mc = 0 ∧ md = 1 ∧ me = 0 ∧ mf = 5) ∨ (ma = -1 ∧ mb = 0 ∧ mc = 0 ∧ md = 1 ∧ me = 0 ∧ mf = 0)
  pta : -9 ≤ ta ∧ ta ≤ 10
  ptb : -9 ≤ tb ∧ tb ≤ 10
  ptc : ta ≤ tc ∧ tc ≤ ta + 8
  ptd : tb ≤ td ∧ td ≤ tb + 8
section
variable {fa fb fc fd wd hg ma mb mc md me mf ta tb tc td : Int}
theorem bnd3 {a : Int} (h : -1000 ≤ a ∧ a ≤ 1000) : Bnd a 3 := Bnd.small h (by decide)
theorem side_lo {x : Int} (h : x = 1 ∨ x = 2 ∨ x = 4 ∨ x = 5 ∨ x = 10 ∨ x = 0) : 0 ≤ x ∧ x ≤ 10 := by
  rcases h with rfl | rfl | rfl | rfl | rfl | rfl <;> decide
theorem near {a w c : Int} (ha : -3 ≤ a ∧ a ≤ 3) (hw : 0 ≤ w ∧ w ≤ 10) (e : c = a + w) : (-13 ≤ a ∧ a ≤ 13) ∧ (-13 ≤ c ∧ c ≤ 13) ∧ a ≤ c ∧ c - a = w := by
  subst e
  omega
theorem wider {a : Int} (h : -13 ≤ a ∧ a ≤ 13) : -1000 ≤ a ∧ a ≤ 1000 := by omega
theorem near2 {a c : Int} (ha : -9 ≤ a ∧ a ≤ 10) (hc : a ≤ c ∧ c ≤ a + 8) : (-1000 ≤ a ∧ a ≤ 1000) ∧ (-1000 ≤ c ∧ c ≤ 1000) ∧ a ≤ c := by omega
theorem near3 {a c x : Int} (ha : -9 ≤ a ∧ a ≤ 10) (hc : a ≤ c ∧ c ≤ a + 8) (hx : -15 ≤ x ∧ x ≤ 15) : (-1000 ≤ a + x ∧ a + x ≤ 1000) ∧ (-1000 ≤ c + x ∧ c + x ≤ 1000) ∧ a + x ≤ c + x := by omega
theorem Draws.xs (D : Draws fa fb fc fd wd hg ma mb mc md me mf ta tb tc td) : (-13 ≤ fa ∧ fa ≤ 13) ∧ (-13 ≤ fc ∧ fc ≤ 13) ∧ fa ≤ fc ∧ fc - fa = wd := near D.pfa (side_lo D.pwd) D.pfc
theorem Draws.ys (D : Draws fa fb fc fd wd hg ma mb mc md me mf ta tb tc td) : (-13 ≤ fb ∧ fb ≤ 13) ∧ (-13 ≤ fd ∧ fd ≤ 13) ∧ fb ≤ fd ∧ fd - fb = hg := near D.pfb (side_lo D.phg) D.pfd
theorem Draws.frame (D : Draws fa fb fc fd wd hg ma mb mc md me mf ta tb tc td) : Box4 fa fb fc fd :=
  ⟨bnd3 (wider D.xs.1), bnd3 (wider D.ys.1), bnd3 (wider D.xs.2.1), bnd3 (wider D.ys.2.1), D.xs.2.2.1, D.ys.2.2.1⟩
theorem Draws.target (D : Draws fa fb fc fd wd hg ma mb mc md me mf ta tb tc td) : Box4 ta tb tc td :=
  ⟨bnd3 (near2 D.pta D.ptc).1, bnd3 (near2 D.ptb D.ptd).1, bnd3 (near2 D.pta D.ptc).2.1, bnd3 (near2 D.ptb D.ptd).2.1, (near2 D.pta D.ptc).2.2, (near2 D.ptb D.ptd).2.2⟩
theorem Draws.shift {x y : Int} (D : Draws fa fb fc fd wd hg ma mb mc md me mf ta tb tc td) (hx : -15 ≤ x ∧ x ≤ 15) (hy : -15 ≤ y ∧ y ≤ 15) : Box4 (ta + x) (tb + y) (tc + x) (td + y) :=
  ⟨bnd3 (near3 D.pta D.ptc hx).1, bnd3 (near3 D.ptb D.ptd hy).1, bnd3 (near3 D.pta D.ptc hx).2.1, bnd3 (near3 D.ptb D.ptd hy).2.1, (near3 D.pta D.ptc hx).2.2, (near3 D.ptb D.ptd hy).2.2⟩
theorem Draws.mat (D : Draws fa fb fc fd wd hg ma mb mc md me mf ta tb tc td) : Mat6 ma mb mc md me mf := by
  rcases D.pmt with ⟨rfl, rfl, rfl, rfl, rfl, rfl⟩ | ⟨rfl, rfl, rfl, rfl, rfl, rfl⟩ | ⟨rfl, rfl, rfl, rfl, rfl, rfl⟩ | ⟨rfl, rfl, rfl, rfl, rfl, rfl⟩ <;>
    exact ⟨bnd3 (by decide), bnd3 (by decide), bnd3 (by decide), bnd3 (by decide), bnd3 (by decide), bnd3 (by decide)⟩
theorem mm1 {u v : Int} (h : u ≤ v) : max (max (max u v) v) u - min (min (min u v) v) u = v - u := by
  rw [Int.max_eq_right h, Int.max_self, Int.max_eq_left h, Int.min_eq_left h, Int.min_eq_left h, Int.min_self]
theorem mm2 {u v : Int} (h : v ≤ u) : max (max (max u v) v) u - min (min (min u v) v) u = u - v := by
  rw [Int.max_eq_left h, Int.max_eq_left h, Int.max_self, Int.min_eq_right h, Int.min_self, Int.min_eq_left h]
theorem mm3 {u v : Int} (h : u ≤ v) : max (max (max u u) v) v - min (min (min u u) v) v = v - u := by
  rw [Int.max_self, Int.max_eq_right h, Int.max_self, Int.min_self, Int.min_eq_left h, Int.min_eq_left h]
theorem mm4 {u v : Int} (h : v ≤ u) : max (max (max u u) v) v - min (min (min u u) v) v = u - v := by
  rw [Int.max_self, Int.max_eq_left h, Int.max_eq_left h, Int.min_self, Int.min_eq_right h, Int.min_self]
theorem span_1 {x o : Int} (hf : fa ≤ fc) (e : fc - fa = x) : spanOf 1 0 o fa fb fc fd = x := by
  unfold spanOf highOf lowOf
  simp only [Int.zero_mul, Int.add_zero, Int.one_mul]
  rw [mm1 (Int.add_le_add_right hf o)]
  omega
theorem span_2 {x o : Int} (hf : fa ≤ fc) (e : fc - fa = x) : spanOf 2 0 o fa fb fc fd = 2 * x := by
  unfold spanOf highOf lowOf
  simp only [Int.zero_mul, Int.add_zero]
  rw [mm1 (by omega)]
  omega
theorem span_m {x o : Int} (hf : fa ≤ fc) (e : fc - fa = x) : spanOf (-1) 0 o fa fb fc fd = x := by
  unfold spanOf highOf lowOf
  simp only [Int.zero_mul, Int.add_zero]
  rw [mm2 (by omega)]
  omega
theorem span_u {x o : Int} (hf : fb ≤ fd) (e : fd - fb = x) : spanOf 0 1 o fa fb fc fd = x := by
  unfold spanOf highOf lowOf
  simp only [Int.zero_mul, Int.zero_add, Int.one_mul]
  rw [mm3 (Int.add_le_add_right hf o)]
  omega
theorem span_d {x o : Int} (hf : fb ≤ fd) (e : fd - fb = x) : spanOf 0 (-1) o fa fb fc fd = x := by
  unfold spanOf highOf lowOf
  simp only [Int.zero_mul, Int.zero_add]
  rw [mm4 (by omega)]
  omega
theorem nice_1 {x : Int} (h : x = 1 ∨ x = 2 ∨ x = 4 ∨ x = 5 ∨ x = 10 ∨ x = 0) : x = 0 ∨ Nice x := by
  rcases h with rfl | rfl | rfl | rfl | rfl | rfl <;> first | exact .inl rfl | (right; unfold Nice; decide)
theorem nice_2 {x : Int} (h : x = 1 ∨ x = 2 ∨ x = 4 ∨ x = 5 ∨ x = 10 ∨ x = 0) : 2 * x = 0 ∨ Nice (2 * x) := by
  rcases h with rfl | rfl | rfl | rfl | rfl | rfl <;> first | exact .inl rfl | (right; unfold Nice; decide)
theorem nice_prod {x t : Int} (h : x = 1 ∨ x = 2 ∨ x = 4 ∨ x = 5 ∨ x = 10 ∨ x = 0) (ht : t = 2 ∨ t = 4 ∨ t = 5 ∨ t = 10) : x * t = 0 ∨ Nice (x * t) := by
  rcases h with rfl | rfl | rfl | rfl | rfl | rfl <;> rcases ht with rfl | rfl | rfl | rfl <;> first | (left; rfl) | (right; unfold Nice; decide)
theorem Draws.gx (D : Draws fa fb fc fd wd hg ma mb mc md me mf ta tb tc td) : spanOf ma mc me fa fb fc fd = 0 ∨ Nice (spanOf ma mc me fa fb fc fd) := by
  have X := D.xs.2.2
  have Y := D.ys.2.2
  have c := D.pwd
  have d := D.phg
  rcases D.pmt with ⟨rfl, rfl, rfl, rfl, rfl, rfl⟩ | ⟨rfl, rfl, rfl, rfl, rfl, rfl⟩ | ⟨rfl, rfl, rfl, rfl, rfl, rfl⟩ | ⟨rfl, rfl, rfl, rfl, rfl, rfl⟩
  · rw [span_1 X.1 X.2]; exact nice_1 c
  · rw [span_d Y.1 Y.2]; exact nice_1 d
  · rw [span_2 X.1 X.2]; exact nice_2 c
  · rw [span_m X.1 X.2]; exact nice_1 c
theorem Draws.gy (D : Draws fa fb fc fd wd hg ma mb mc md me mf ta tb tc td) : spanOf mb md mf fa fb fc fd = 0 ∨ Nice (spanOf mb md mf fa fb fc fd) := by
  have X := D.xs.2.2
  have Y := D.ys.2.2
  have c := D.pwd
  have d := D.phg
  rcases D.pmt with ⟨rfl, rfl, rfl, rfl, rfl, rfl⟩ | ⟨rfl, rfl, rfl, rfl, rfl, rfl⟩ | ⟨rfl, rfl, rfl, rfl, rfl, rfl⟩ | ⟨rfl, rfl, rfl, rfl, rfl, rfl⟩
  · rw [span_u Y.1 Y.2]; exact nice_1 d
  · rw [span_1 X.1 X.2]; exact nice_1 c
  · rw [span_u Y.1 Y.2]; exact nice_1 d
  · rw [span_u Y.1 Y.2]; exact nice_1 d
/-- where the law asks of the great box -/
structure Great (fa fb fc fd ma mb mc md me mf t : Int) : Prop where
  box : Box4 (fa * t) (fb * t) (fc * t) (fd * t)
  gx : spanOf ma mc me (fa * t) (fb * t) (fc * t) (fd * t) = 0 ∨ Nice (spanOf ma mc me (fa * t) (fb * t) (fc * t) (fd * t))
  gy : spanOf mb md mf (fa * t) (fb * t) (fc * t) (fd * t) = 0 ∨ Nice (spanOf mb md mf (fa * t) (fb * t) (fc * t) (fd * t))
  nx : spanOf ma mc me fa fb fc fd ≠ 0
  ny : spanOf mb md mf fa fb fc fd ≠ 0
  e : me = 0
  f : mf = 0
theorem great_bnd {a t : Int} (h : -13 ≤ a ∧ a ≤ 13) (ht : t = 2 ∨ t = 4 ∨ t = 5 ∨ t = 10) : -1000 ≤ a * t ∧ a * t ≤ 1000 := by
  rcases ht with rfl | rfl | rfl | rfl <;> omega
theorem great_pos {t : Int} (ht : t = 2 ∨ t = 4 ∨ t = 5 ∨ t = 10) : 0 < t := by
  rcases ht with rfl | rfl | rfl | rfl <;> decide
theorem Draws.great {t : Int} (D : Draws fa fb fc fd wd hg ma mb mc md me mf ta tb tc td) (hw : 0 < wd) (hh : 0 < hg) (he : me = 0 ∧ mf = 0) (ht : t = 2 ∨ t = 4 ∨ t = 5 ∨ t = 10) : Great fa fb fc fd ma mb mc md me mf t := by
  have X := D.xs
  have Y := D.ys
  have c := D.pwd
  have d := D.phg
  have g := D.pmt
  clear D
  have t0 := great_pos ht
  have s : spanOf ma mc me fa fb fc fd = wd ∧ spanOf mb md mf fa fb fc fd = hg := by
    obtain ⟨rfl, rfl⟩ := he
    rcases g with ⟨rfl, rfl, rfl, rfl, _, _⟩ | ⟨_, _, _, _, e, _⟩ | ⟨_, _, _, _, _, e⟩ | ⟨rfl, rfl, rfl, rfl, _, _⟩
    · exact ⟨span_1 X.2.2.1 X.2.2.2, span_u Y.2.2.1 Y.2.2.2⟩
    · exact absurd e (by decide)
    · exact absurd e (by decide)
    · exact ⟨span_m X.2.2.1 X.2.2.2, span_u Y.2.2.1 Y.2.2.2⟩
  obtain ⟨rfl, rfl⟩ := he
  refine ⟨⟨bnd3 (great_bnd X.1 ht), bnd3 (great_bnd Y.1 ht), bnd3 (great_bnd X.2.1 ht), bnd3 (great_bnd Y.2.1 ht), Int.mul_le_mul_of_nonneg_right X.2.2.1 (Int.le_of_lt t0), Int.mul_le_mul_of_nonneg_right Y.2.2.1 (Int.le_of_lt t0)⟩, ?_, ?_, ?_, ?_, rfl, rfl⟩
  · rw [span_scale (Int.le_of_lt t0), s.1]; exact nice_prod c ht
  · rw [span_scale (Int.le_of_lt t0), s.2]; exact nice_prod d ht
  · rw [s.1]; exact Int.ne_of_gt hw
  · rw [s.2]; exact Int.ne_of_gt hh
end
end Mine
end PartQc
open PySem PySem.W PyProof.Rows
namespace Mine
open PySem.Spec PySem.Calls
/-- the statement at a place -/
noncomputable def at_ (l : List Stmt) (n : Nat) : Stmt := (l.drop n).headD (Stmt.Pass default)
/-- the statements of the program that a call may read -/
noncomputable def hv : Program := { PySem.Challenge.rw_qz0079_01.row.prog with main := { PySem.Challenge.rw_qz0079_01.row.prog.main with body := [0, 2, 3, 5, 6, 7, 8, 9, 10, 11, 12, 13, 14, 15, 17, 18, 19, 20, 21, 22, 23, 24, 25, 27, 28, 29, 30, 31, 32, 33, 34, 36, 38, 40, 43, 44, 45, 46, 47, 48, 49].map (at_ PySem.Challenge.rw_qz0079_01.row.prog.main.body) } }
theorem said : OpenLaw.wellSaid PySem.Challenge.rw_qz0079_01 = true := by
  delta OpenLaw.wellSaid OpenRow.wellSaid OpenRow.partSaid looksOpen
  repeat' with_reducible refine look_both ?_ ?_
  all_goals decide +kernel
/-- the row's claim, with a hook named beside it -/
def Given (_H : Hook) : Prop := PySem.Challenge.rw_qz0079_01.row.Holds
theorem given_of (H : Hook) (_hw : PySem.Challenge.rw_qz0079_01.row.toRowW.promised) (h : Given H) : PySem.Challenge.rw_qz0079_01.row.Holds := h
section
local macro_rules | `(tactic| o_law) => `(tactic| refine holds_law Mine.said fun said => ?_)
local macro_rules | `(tactic| o_head $H) => `(tactic| refine Mine.given_of $H ?hw ?hc)
open_top hd0 for PySem.Challenge.rw_qz0079_01
end
/-- the law's own text, taken out of the given program -/
noncomputable def lawStmt : Stmt := (PySem.Challenge.rw_qz0079_01.row.prog.main.body.drop 49).headD (Stmt.Pass default)
noncomputable def lawRec : DefRec := match lawStmt with
  | .FunctionDef n a b _ _ _ sc _ _ p => { name := n, params := a, body := b, scope := sc, pos := p }
  | _ => { name := default, params := default, body := [], scope := default, pos := default }
/-- the addresses of the objects written out -/
noncomputable def hA : List Addr := [2, 3, 15, 17, 18, 20, 21, 22, 29, 30, 32, 33, 35, 36, 37, 39, 40, 42, 43, 44, 45, 46, 47, 50, 57, 58, 59, 69, 71, 72, 74, 75, 76, 78, 79, 81, 82, 83, 85, 86, 88, 89, 90, 92, 93, 95, 96, 97, 99, 100, 102, 103, 104, 106, 107, 109, 110, 111, 113, 114, 116, 117, 118, 120, 121, 123, 124, 125, 127, 128, 130, 131, 132, 134, 135, 137, 138, 139, 141, 142, 144, 145, 146, 148, 149, 151, 152, 153, 154, 155, 156, 157, 160, 162, 163, 165, 166, 167, 169, 170, 172, 173, 174, 176, 177, 179, 180, 181, 183, 184, 186, 187, 188, 190, 191, 193, 194, 195, 197, 198, 200, 201, 202, 204, 205, 207, 208, 209, 211, 212, 214, 215, 216, 218, 219, 221, 222, 223, 225, 226, 228, 229, 237, 239, 240, 242, 243, 244, 246, 247, 249, 250, 251, 253, 254, 256, 257, 258, 260, 261, 263, 264, 265, 267, 268, 270, 271, 272, 275, 276, 277, 278, 279, 280, 281, 284, 286, 287, 289, 290, 291, 293, 294, 296, 297, 298, 301, 302, 303, 305, 306, 308, 309, 310, 313, 314, 315, 317, 318, 320, 321, 322, 324, 325, 327, 328, 329, 331, 332, 334, 335, 343, 345, 346, 348, 349, 350, 351, 352, 353, 354, 364, 365, 367, 368, 370, 371, 372, 373, 374, 375, 376, 386, 388, 389, 391, 392, 393, 394, 395, 396, 397, 407, 409, 410, 412, 413, 414, 416, 417, 419, 420, 421, 422, 423, 424, 425, 428, 430, 431, 433, 434, 435, 437, 438, 440, 441, 449, 450, 452, 453, 455, 456, 457, 459, 460, 462, 463, 464, 466, 467, 469, 470, 471, 472, 473, 474, 475, 478, 481, 482, 483, 485, 486, 488, 489, 490, 491, 493, 494, 496, 497, 498, 501, 502, 503, 504, 506, 507, 509, 510, 511, 514, 515, 516, 518, 519, 521, 522, 523, 525, 526, 528, 529, 530, 532, 533, 535, 536, 537, 539, 540, 542, 543, 544, 546, 547, 549, 550, 551, 554, 555]
theorem hA_ok (P : Params) : hA = (Mine.hd0.heap_1 P).map (·.1) := by kernel_rfl
noncomputable abbrev LOOSE : List PySem.Str := [PySem.Str.ofString "PaperError", PySem.Str.ofString "appearance_of", PySem.Str.ofString "appearance_placed"]
/-- what the walk from the law's call shows -/
def WalkAll : Prop := WalkO hv [PySem.Str.ofString "PaperError", PySem.Str.ofString "appearance_of", PySem.Str.ofString "appearance_placed"] (XL hv []) (kHook Mine.hd0.heap_1 hA hA_ok).says PySem.Challenge.rw_qz0079_01.row.toRowW lawRec [] (fun f vs => PySem.call f vs)
/- The names below are those that the head would give to equations of its own that it makes to be quicker, and that would fill 100 MB; where a name is taken it goes on without. No proof leans on them. -/
namespace hd
noncomputable def tw10458740792067480800 : Unit := ()
noncomputable def tw9499510787657705874 : Unit := ()
noncomputable def tw15643275761693703936 : Unit := ()
noncomputable def tw2608437505485318709 : Unit := ()
noncomputable def tw5480042469492414594 : Unit := ()
noncomputable def tw2252305205657439004 : Unit := ()
noncomputable def tw11117797201346649052 : Unit := ()
noncomputable def tw15790720579355451973 : Unit := ()
noncomputable def tw2887051446865420828 : Unit := ()
noncomputable def tw9398405308114057262 : Unit := ()
noncomputable def tw8977307856219701671 : Unit := ()
noncomputable def tw12112201142124510154 : Unit := ()
noncomputable def tw6329026251626060993 : Unit := ()
noncomputable def tw6407587892757256292 : Unit := ()
noncomputable def tw4494801613693538912 : Unit := ()
noncomputable def tw8086110750863094267 : Unit := ()
noncomputable def tw3451239065008710300 : Unit := ()
noncomputable def tw13790719812936386609 : Unit := ()
noncomputable def tw8381844023166312768 : Unit := ()
noncomputable def tw7880807054014371918 : Unit := ()
noncomputable def tw8228950375871286339 : Unit := ()
noncomputable def tw15508949281206285077 : Unit := ()
noncomputable def tw2386827423013361158 : Unit := ()
noncomputable def tw8184699220007379433 : Unit := ()
noncomputable def tw5107316007074341285 : Unit := ()
noncomputable def tw5987830557187376847 : Unit := ()
noncomputable def tw11449282263905321334 : Unit := ()
noncomputable def tw6060742912462422084 : Unit := ()
noncomputable def tw13338143212406534295 : Unit := ()
noncomputable def tw2213181580616183961 : Unit := ()
noncomputable def tw2930668341846507884 : Unit := ()
noncomputable def tw14896477498954680388 : Unit := ()
noncomputable def tw15616948245753086127 : Unit := ()
noncomputable def tw5366084841770067474 : Unit := ()
noncomputable def tw16473244170626142550 : Unit := ()
noncomputable def tw15463257786427224491 : Unit := ()
noncomputable def tw9427301549700849589 : Unit := ()
noncomputable def tw14960593345356199642 : Unit := ()
noncomputable def tw15987713032478767096 : Unit := ()
noncomputable def tw16213748851167669294 : Unit := ()
noncomputable def tw1589133516308662214 : Unit := ()
noncomputable def tw8030812658769144569 : Unit := ()
noncomputable def tw7914949630228597729 : Unit := ()
noncomputable def tw11128854368766332075 : Unit := ()
noncomputable def tw17466564637892440618 : Unit := ()
noncomputable def tw4005110847755344681 : Unit := ()
noncomputable def tw6785817131721698500 : Unit := ()
noncomputable def tw17599816209265215132 : Unit := ()
noncomputable def tw15220180469806662145 : Unit := ()
noncomputable def tw17562767543260142214 : Unit := ()
noncomputable def tw10246146449241189800 : Unit := ()
noncomputable def tw6082411064634330575 : Unit := ()
noncomputable def tw15967140613478806237 : Unit := ()
noncomputable def tw18343703819029505601 : Unit := ()
noncomputable def tw1997569388931296116 : Unit := ()
noncomputable def tw6291416237084387574 : Unit := ()
noncomputable def tw8789358453043137523 : Unit := ()
noncomputable def tw11232374478483605306 : Unit := ()
noncomputable def tw11251137523995926341 : Unit := ()
noncomputable def tw16299908979028503884 : Unit := ()
noncomputable def tw11709330566771433103 : Unit := ()
noncomputable def tw6438293893037913957 : Unit := ()
noncomputable def tw13409441903868389331 : Unit := ()
noncomputable def tw4521311704260346916 : Unit := ()
noncomputable def tw5282504435634884242 : Unit := ()
noncomputable def tw7510230149288206974 : Unit := ()
noncomputable def tw16011055738799735888 : Unit := ()
noncomputable def tw5608270528595127837 : Unit := ()
noncomputable def tw10614716105012338702 : Unit := ()
noncomputable def tw10919297434634762262 : Unit := ()
noncomputable def tw5373601922739893978 : Unit := ()
noncomputable def tw18293851220164018083 : Unit := ()
noncomputable def tw6804821044290156842 : Unit := ()
noncomputable def tw2167537188350426706 : Unit := ()
noncomputable def tw16006246977917349235 : Unit := ()
noncomputable def tw7891253978561527248 : Unit := ()
noncomputable def tw10860895700388868024 : Unit := ()
noncomputable def tw18129098259903571784 : Unit := ()
noncomputable def tw12647368939536790636 : Unit := ()
noncomputable def tw3309697970292668127 : Unit := ()
noncomputable def tw1452849714261714991 : Unit := ()
noncomputable def tw9707819087739362317 : Unit := ()
noncomputable def tw12598724348716800887 : Unit := ()
noncomputable def tw10949625832625181284 : Unit := ()
noncomputable def tw17177331786930743035 : Unit := ()
noncomputable def tw17447410573909459338 : Unit := ()
noncomputable def tw7270182246851987180 : Unit := ()
noncomputable def tw15642763164714097627 : Unit := ()
noncomputable def tw5978321128707920903 : Unit := ()
noncomputable def tw22551697357593593 : Unit := ()
noncomputable def tw3085183777334472315 : Unit := ()
noncomputable def tw17948085552500728524 : Unit := ()
noncomputable def tw3381375190539634487 : Unit := ()
noncomputable def tw18166333605607142505 : Unit := ()
noncomputable def tw11319097763535126812 : Unit := ()
noncomputable def tw15673258824015622330 : Unit := ()
noncomputable def tw15422856539912107476 : Unit := ()
noncomputable def tw17054507655720011243 : Unit := ()
noncomputable def tw9641152695372364146 : Unit := ()
noncomputable def tw9557236495431379559 : Unit := ()
noncomputable def tw15043168886218598503 : Unit := ()
noncomputable def tw17588044629489971554 : Unit := ()
noncomputable def tw2867327485932766208 : Unit := ()
noncomputable def tw4870687313549177768 : Unit := ()
noncomputable def tw1011335219593555734 : Unit := ()
noncomputable def tw1476953355023367494 : Unit := ()
noncomputable def tw15367242080415987702 : Unit := ()
noncomputable def tw10601615944963115059 : Unit := ()
noncomputable def tw13893168526513508166 : Unit := ()
noncomputable def tw16155205043701107222 : Unit := ()
noncomputable def tw9566141503761928105 : Unit := ()
noncomputable def tw7289634563603522867 : Unit := ()
noncomputable def tw10030107230732127627 : Unit := ()
noncomputable def tw17843490464661113860 : Unit := ()
noncomputable def tw6982297934935202809 : Unit := ()
noncomputable def tw17714235663813219645 : Unit := ()
noncomputable def tw4478166936697009375 : Unit := ()
noncomputable def tw11011131195910976488 : Unit := ()
noncomputable def tw3182187488490625086 : Unit := ()
noncomputable def tw12486720848796965907 : Unit := ()
noncomputable def tw8428860471423672150 : Unit := ()
noncomputable def tw11136197038861592535 : Unit := ()
noncomputable def tw9783614193127449063 : Unit := ()
noncomputable def tw8770205317985620760 : Unit := ()
noncomputable def tw14400467628812073631 : Unit := ()
noncomputable def tw10743916045514856203 : Unit := ()
noncomputable def tw3915529967508079626 : Unit := ()
noncomputable def tw14980023328507725902 : Unit := ()
noncomputable def tw2101469004524951375 : Unit := ()
noncomputable def tw18300207936620678264 : Unit := ()
noncomputable def tw8343274005884668182 : Unit := ()
noncomputable def tw5148922909946612681 : Unit := ()
noncomputable def tw8684328023851190084 : Unit := ()
noncomputable def tw17903497710992402801 : Unit := ()
noncomputable def tw6423634429210846174 : Unit := ()
noncomputable def tw11778180911958503814 : Unit := ()
noncomputable def tw4065347644161347641 : Unit := ()
noncomputable def tw6924109203229866365 : Unit := ()
noncomputable def tw18293732401869909652 : Unit := ()
noncomputable def tw12631932088317031055 : Unit := ()
noncomputable def tw11151547217846952531 : Unit := ()
noncomputable def tw7519716089354478335 : Unit := ()
noncomputable def tw10792051664901133789 : Unit := ()
noncomputable def tw14553816603554493358 : Unit := ()
noncomputable def tw8004679753235328684 : Unit := ()
noncomputable def tw6038821095411175016 : Unit := ()
noncomputable def tw4014540891139286612 : Unit := ()
noncomputable def tw4297731678662094536 : Unit := ()
noncomputable def tw16064382804478563927 : Unit := ()
noncomputable def tw2315301623876862497 : Unit := ()
noncomputable def tw15344866539931968096 : Unit := ()
noncomputable def tw15042006015671813226 : Unit := ()
noncomputable def tw4272726840584523970 : Unit := ()
noncomputable def tw2114630138375439770 : Unit := ()
noncomputable def tw6965799899956892507 : Unit := ()
noncomputable def tw4172343393113369950 : Unit := ()
noncomputable def tw13315533130655954831 : Unit := ()
noncomputable def tw11893437276241958245 : Unit := ()
noncomputable def tw2051048951616859547 : Unit := ()
noncomputable def tw519851828213033955 : Unit := ()
noncomputable def tw6906073325868019850 : Unit := ()
noncomputable def tw18322514126500204803 : Unit := ()
noncomputable def tw3480954088277226078 : Unit := ()
noncomputable def tw7610815399733428385 : Unit := ()
noncomputable def tw2329189449893159454 : Unit := ()
noncomputable def tw11402939732021071671 : Unit := ()
noncomputable def tw6578402527460240241 : Unit := ()
noncomputable def tw2442259710966052079 : Unit := ()
noncomputable def tw16194383521188589630 : Unit := ()
noncomputable def tw3259873300814134281 : Unit := ()
noncomputable def tw17739348878880393726 : Unit := ()
noncomputable def tw7721951785955056133 : Unit := ()
noncomputable def tw190519026028168232 : Unit := ()
noncomputable def tw7746578258024575070 : Unit := ()
noncomputable def tw11959044307898795358 : Unit := ()
noncomputable def tw189712035060473897 : Unit := ()
noncomputable def tw9386895884608548742 : Unit := ()
noncomputable def tw402640490398009360 : Unit := ()
noncomputable def tw8545014587354053640 : Unit := ()
noncomputable def tw9244321171653502345 : Unit := ()
noncomputable def tw6123773746684550334 : Unit := ()
noncomputable def tw5635641802508607975 : Unit := ()
noncomputable def tw13267510147771200024 : Unit := ()
noncomputable def tw10583446816852156582 : Unit := ()
noncomputable def tw17808607793243039243 : Unit := ()
noncomputable def tw16772102934027710169 : Unit := ()
noncomputable def tw11054480109507316185 : Unit := ()
noncomputable def tw6264232113106981867 : Unit := ()
noncomputable def tw2708950531961675432 : Unit := ()
noncomputable def tw14560493823538711346 : Unit := ()
noncomputable def tw5292301768408028288 : Unit := ()
noncomputable def tw6164396464334811476 : Unit := ()
noncomputable def tw8934143017859847078 : Unit := ()
noncomputable def tw162610821266807592 : Unit := ()
noncomputable def tw2068664650715991707 : Unit := ()
noncomputable def tw5791856155091588825 : Unit := ()
noncomputable def tw14478148883734587675 : Unit := ()
noncomputable def tw541196102884509978 : Unit := ()
noncomputable def tw15103106377680225435 : Unit := ()
noncomputable def tw8068729725432388964 : Unit := ()
noncomputable def tw9719896912496429819 : Unit := ()
noncomputable def tw2274498078352570744 : Unit := ()
noncomputable def tw15946388913382835224 : Unit := ()
noncomputable def tw6838551448383532254 : Unit := ()
noncomputable def tw1984820313389227941 : Unit := ()
noncomputable def tw11660266114150955751 : Unit := ()
noncomputable def tw17213754286329925777 : Unit := ()
noncomputable def tw2216850387143573719 : Unit := ()
noncomputable def tw7355570028127101125 : Unit := ()
noncomputable def tw16904818350239718627 : Unit := ()
noncomputable def tw4993660671451451078 : Unit := ()
noncomputable def tw8025032847418708242 : Unit := ()
noncomputable def tw8364274539379898114 : Unit := ()
noncomputable def tw12058812876911547015 : Unit := ()
noncomputable def tw4086058157674990017 : Unit := ()
noncomputable def tw307737655149646647 : Unit := ()
noncomputable def tw5902613922787404954 : Unit := ()
noncomputable def tw4383666589626881386 : Unit := ()
noncomputable def tw2457190517430149469 : Unit := ()
noncomputable def tw9702936160620672325 : Unit := ()
noncomputable def tw5781342201191254626 : Unit := ()
noncomputable def tw12602439190401603521 : Unit := ()
noncomputable def tw13047593935725612058 : Unit := ()
noncomputable def tw13466754112058979494 : Unit := ()
noncomputable def tw10111801491309104144 : Unit := ()
noncomputable def tw6411954120941647267 : Unit := ()
noncomputable def tw10525666975642140466 : Unit := ()
noncomputable def tw16828841361933241965 : Unit := ()
noncomputable def tw15089522573102190283 : Unit := ()
noncomputable def tw11213053971927718326 : Unit := ()
noncomputable def tw11032806212648032379 : Unit := ()
noncomputable def tw2783992281797965187 : Unit := ()
noncomputable def tw17047115858639842297 : Unit := ()
noncomputable def tw3452082135128663414 : Unit := ()
noncomputable def tw9430268157657104642 : Unit := ()
noncomputable def tw13285133528070534704 : Unit := ()
noncomputable def tw17950676927832955104 : Unit := ()
noncomputable def tw3178231758103763310 : Unit := ()
noncomputable def tw9421340871869096474 : Unit := ()
noncomputable def tw10216474801634566288 : Unit := ()
noncomputable def tw6598312636042714100 : Unit := ()
noncomputable def tw5559951931751713254 : Unit := ()
noncomputable def tw3442329435671937591 : Unit := ()
noncomputable def tw17183224562656869120 : Unit := ()
noncomputable def tw1382963296337349011 : Unit := ()
noncomputable def tw13825509269061658866 : Unit := ()
noncomputable def tw991583007596301734 : Unit := ()
noncomputable def tw12173100003817136821 : Unit := ()
noncomputable def tw5036846961687405229 : Unit := ()
noncomputable def tw17919194246423945575 : Unit := ()
noncomputable def tw14620637471214046174 : Unit := ()
noncomputable def tw3008623586974134963 : Unit := ()
noncomputable def tw14768889098011018680 : Unit := ()
noncomputable def tw5238241317806426387 : Unit := ()
noncomputable def tw13753220567063992666 : Unit := ()
noncomputable def tw18093812233618175256 : Unit := ()
noncomputable def tw9170477692918782315 : Unit := ()
noncomputable def tw7153062008950511462 : Unit := ()
noncomputable def tw17377529257436501650 : Unit := ()
noncomputable def tw845060206244984605 : Unit := ()
noncomputable def tw7523672394736509286 : Unit := ()
noncomputable def tw728884934406724761 : Unit := ()
noncomputable def tw5461583852855630226 : Unit := ()
noncomputable def tw4115565904173853331 : Unit := ()
noncomputable def tw5190246844813560578 : Unit := ()
noncomputable def tw4971549296188076032 : Unit := ()
noncomputable def tw8047900516022102942 : Unit := ()
noncomputable def tw11334062482582688307 : Unit := ()
noncomputable def tw13866372431405929976 : Unit := ()
noncomputable def tw17234923516513369237 : Unit := ()
noncomputable def tw5245234834050458271 : Unit := ()
noncomputable def tw7296583596125217682 : Unit := ()
noncomputable def tw13431754692932380062 : Unit := ()
noncomputable def tw17001982702790524580 : Unit := ()
noncomputable def tw3219085151875037572 : Unit := ()
noncomputable def tw13225837485096350037 : Unit := ()
noncomputable def tw4856431653887292112 : Unit := ()
noncomputable def tw17316778381555349529 : Unit := ()
noncomputable def tw9345929723534960622 : Unit := ()
noncomputable def tw16649331688326792143 : Unit := ()
noncomputable def tw5363564295841288755 : Unit := ()
noncomputable def tw2603259988358896889 : Unit := ()
noncomputable def tw16634568088961857937 : Unit := ()
noncomputable def tw8990313861142287110 : Unit := ()
noncomputable def tw15527848837575444561 : Unit := ()
noncomputable def tw11953376511379268794 : Unit := ()
noncomputable def tw18103342009636024947 : Unit := ()
noncomputable def tw16007149819294483003 : Unit := ()
noncomputable def tw13181700845877081190 : Unit := ()
noncomputable def tw1013155817946168525 : Unit := ()
noncomputable def tw16259696140248634718 : Unit := ()
noncomputable def tw1847840615245081061 : Unit := ()
noncomputable def tw14060154772996877548 : Unit := ()
noncomputable def tw3109861748172591687 : Unit := ()
noncomputable def tw4225703048834024713 : Unit := ()
noncomputable def tw3429492842335990350 : Unit := ()
noncomputable def tw5416991563250132298 : Unit := ()
noncomputable def tw9763420282994701918 : Unit := ()
noncomputable def tw14294001040229213422 : Unit := ()
noncomputable def tw4845836938831722396 : Unit := ()
noncomputable def tw8356816923877370021 : Unit := ()
noncomputable def tw10404513684093684653 : Unit := ()
noncomputable def tw3919010098100093602 : Unit := ()
noncomputable def tw9277588360372424766 : Unit := ()
noncomputable def tw13770079208771991547 : Unit := ()
noncomputable def tw8117029840178788049 : Unit := ()
noncomputable def tw1781861727890032366 : Unit := ()
noncomputable def tw4278124947684190350 : Unit := ()
noncomputable def tw15166520500009309586 : Unit := ()
noncomputable def tw15837987909243819085 : Unit := ()
noncomputable def tw6892424819385984264 : Unit := ()
noncomputable def tw13289513938125300765 : Unit := ()
noncomputable def tw15759970867653108152 : Unit := ()
noncomputable def tw16154546982801380032 : Unit := ()
noncomputable def tw8414420238210853183 : Unit := ()
noncomputable def tw8040704754734896634 : Unit := ()
noncomputable def tw6759412095888398321 : Unit := ()
noncomputable def tw1413172679324656950 : Unit := ()
noncomputable def tw4596830416855513897 : Unit := ()
noncomputable def tw180250358704556663 : Unit := ()
noncomputable def tw15344926408473436756 : Unit := ()
noncomputable def tw4015398097383911347 : Unit := ()
noncomputable def tw10296555574160606952 : Unit := ()
noncomputable def tw922143313871775805 : Unit := ()
noncomputable def tw10784824025267889561 : Unit := ()
noncomputable def tw14493484650196919820 : Unit := ()
noncomputable def tw1600037746751723098 : Unit := ()
noncomputable def tw10752148897807903841 : Unit := ()
noncomputable def tw3646829019195819677 : Unit := ()
noncomputable def tw12399718760709695909 : Unit := ()
noncomputable def tw12092154237167983948 : Unit := ()
noncomputable def tw7068711184596962023 : Unit := ()
noncomputable def tw9345676750909349944 : Unit := ()
noncomputable def tw12451258846644117672 : Unit := ()
noncomputable def tw17387473266821786944 : Unit := ()
noncomputable def tw6528754448969337418 : Unit := ()
noncomputable def tw7526368328331116154 : Unit := ()
noncomputable def tw17061077104543960549 : Unit := ()
noncomputable def tw5505005885091257285 : Unit := ()
noncomputable def tw8134915037123179040 : Unit := ()
noncomputable def tw6394381022753523788 : Unit := ()
noncomputable def tw14705683404202351889 : Unit := ()
noncomputable def tw15615420239508185596 : Unit := ()
noncomputable def tw442638132926106271 : Unit := ()
noncomputable def tw1194904439430580092 : Unit := ()
noncomputable def tw11713075325732132258 : Unit := ()
noncomputable def tw6293948785866598258 : Unit := ()
noncomputable def tw8671608845466749128 : Unit := ()
noncomputable def tw212345690472687942 : Unit := ()
noncomputable def tw10738003575532504788 : Unit := ()
noncomputable def tw12659529039999753739 : Unit := ()
noncomputable def tw1860674893733999873 : Unit := ()
noncomputable def tw16211521421427940678 : Unit := ()
noncomputable def tw18245042118932799458 : Unit := ()
noncomputable def tw3795277891434052102 : Unit := ()
noncomputable def tw6998783941825042932 : Unit := ()
noncomputable def tw1439246655266547700 : Unit := ()
noncomputable def tw17062030032774818151 : Unit := ()
noncomputable def tw10258999931320997221 : Unit := ()
noncomputable def tw14246236162039180721 : Unit := ()
noncomputable def tw11513968764499736323 : Unit := ()
noncomputable def tw11551083187376567056 : Unit := ()
noncomputable def tw1409312971732116557 : Unit := ()
noncomputable def tw432457690288141553 : Unit := ()
noncomputable def tw461538923250603899 : Unit := ()
noncomputable def tw12023040214023829324 : Unit := ()
noncomputable def tw6196171512934965099 : Unit := ()
noncomputable def tw8081886968326746073 : Unit := ()
noncomputable def tw4138081844389336918 : Unit := ()
noncomputable def tw6819123309680001836 : Unit := ()
noncomputable def tw16868993833207775613 : Unit := ()
noncomputable def tw9298403506768410418 : Unit := ()
noncomputable def tw8735263284916673568 : Unit := ()
noncomputable def tw16945582573551092051 : Unit := ()
noncomputable def tw13783031573616600631 : Unit := ()
noncomputable def tw14583512912279018726 : Unit := ()
noncomputable def tw17893044597097874663 : Unit := ()
noncomputable def tw2788664435532181463 : Unit := ()
noncomputable def tw1882180444382439491 : Unit := ()
noncomputable def tw10258225898301398825 : Unit := ()
noncomputable def tw14955159897011116063 : Unit := ()
noncomputable def tw12901994302517312135 : Unit := ()
noncomputable def tw6990203504111849199 : Unit := ()
noncomputable def tw16345102440705955213 : Unit := ()
noncomputable def tw15153279154761372571 : Unit := ()
noncomputable def tw13919464512627920130 : Unit := ()
noncomputable def tw16171809288044610508 : Unit := ()
noncomputable def tw7752767780024739350 : Unit := ()
noncomputable def tw17986969038992634876 : Unit := ()
noncomputable def tw16302227732802510677 : Unit := ()
noncomputable def tw11754176132448286083 : Unit := ()
noncomputable def tw9960721518486171458 : Unit := ()
noncomputable def tw978945382295711627 : Unit := ()
noncomputable def tw758273949599710562 : Unit := ()
noncomputable def tw15236768503563427977 : Unit := ()
noncomputable def tw10180746495848690579 : Unit := ()
noncomputable def tw12575139184659369484 : Unit := ()
noncomputable def tw1129884963351977449 : Unit := ()
noncomputable def tw11079593142295127227 : Unit := ()
noncomputable def tw8959176491354863721 : Unit := ()
noncomputable def tw16794629799341752650 : Unit := ()
noncomputable def tw11917015161858427179 : Unit := ()
noncomputable def tw2502866573005156581 : Unit := ()
noncomputable def tw16833337497108226308 : Unit := ()
noncomputable def tw13828106393651249627 : Unit := ()
noncomputable def tw17975533764899295144 : Unit := ()
noncomputable def tw6818987989461384207 : Unit := ()
noncomputable def tw14457593812595234344 : Unit := ()
noncomputable def tw12127338746724423809 : Unit := ()
noncomputable def tw1222794163293265305 : Unit := ()
noncomputable def tw16222499966895952523 : Unit := ()
noncomputable def tw15279998641719260112 : Unit := ()
noncomputable def tw3953601041324332601 : Unit := ()
noncomputable def tw7120233287515763914 : Unit := ()
noncomputable def tw14598272352848978880 : Unit := ()
noncomputable def tw12113243949977362033 : Unit := ()
noncomputable def tw12050417470231563642 : Unit := ()
noncomputable def tw4706079058837389440 : Unit := ()
noncomputable def tw697623264460660564 : Unit := ()
noncomputable def tw6820862383352777685 : Unit := ()
noncomputable def tw10678649693572172417 : Unit := ()
noncomputable def tw8112040973832200146 : Unit := ()
noncomputable def tw7628703163842673926 : Unit := ()
noncomputable def tw2327210489368252092 : Unit := ()
noncomputable def tw9673543361469618366 : Unit := ()
noncomputable def tw11210553801493137410 : Unit := ()
noncomputable def tw2845679848157327705 : Unit := ()
noncomputable def tw15411387601460861337 : Unit := ()
noncomputable def tw8960069828448710407 : Unit := ()
noncomputable def tw7028611270464810887 : Unit := ()
noncomputable def tw1836080755315867724 : Unit := ()
noncomputable def tw54727356038600574 : Unit := ()
noncomputable def tw15368132723985388332 : Unit := ()
noncomputable def tw14353793391729792155 : Unit := ()
noncomputable def tw13518370688599389936 : Unit := ()
noncomputable def tw1580110805410547442 : Unit := ()
noncomputable def tw5130813555471234732 : Unit := ()
noncomputable def tw7534799579077118603 : Unit := ()
noncomputable def tw1623716613649749871 : Unit := ()
noncomputable def tw8268277133935991078 : Unit := ()
noncomputable def tw701787995468756871 : Unit := ()
noncomputable def tw6305734824756694309 : Unit := ()
noncomputable def tw13130339120466069327 : Unit := ()
noncomputable def tw2040699094819691630 : Unit := ()
noncomputable def tw8458067239894703972 : Unit := ()
noncomputable def tw6276725880618359904 : Unit := ()
noncomputable def tw7366208706002141716 : Unit := ()
noncomputable def tw17672654358674132775 : Unit := ()
noncomputable def tw7540741092611519060 : Unit := ()
noncomputable def tw920214292312260371 : Unit := ()
noncomputable def tw9657781627882305391 : Unit := ()
noncomputable def tw3694398316872202419 : Unit := ()
noncomputable def tw18219297243305740317 : Unit := ()
noncomputable def tw12038449962744721747 : Unit := ()
noncomputable def tw13321331477185743149 : Unit := ()
noncomputable def tw15595854959937240912 : Unit := ()
noncomputable def tw16056359734778111409 : Unit := ()
noncomputable def tw5009564483982726761 : Unit := ()
noncomputable def tw6335257393663865988 : Unit := ()
noncomputable def tw7494724483528729301 : Unit := ()
noncomputable def tw8841187974860818712 : Unit := ()
noncomputable def tw12949589719889679912 : Unit := ()
noncomputable def tw4325921153153474475 : Unit := ()
noncomputable def tw1800889605409440832 : Unit := ()
noncomputable def tw535892090144202126 : Unit := ()
noncomputable def tw12936449754285732098 : Unit := ()
noncomputable def tw8609351116199087170 : Unit := ()
noncomputable def tw16920754564084929960 : Unit := ()
noncomputable def tw185848376630758926 : Unit := ()
noncomputable def tw13277076834127875243 : Unit := ()
noncomputable def tw4360684699965382250 : Unit := ()
noncomputable def tw6868836192036940282 : Unit := ()
noncomputable def tw6545403380812914513 : Unit := ()
noncomputable def tw4315991029959535628 : Unit := ()
noncomputable def tw8879563391730754479 : Unit := ()
noncomputable def tw9748044761591592747 : Unit := ()
noncomputable def tw3759623122121258479 : Unit := ()
noncomputable def tw17542962492245011380 : Unit := ()
noncomputable def tw8727321023445011275 : Unit := ()
noncomputable def tw8516288146210602744 : Unit := ()
noncomputable def tw1760603350576429475 : Unit := ()
noncomputable def tw13171849528936347964 : Unit := ()
noncomputable def tw3443669649825651883 : Unit := ()
noncomputable def tw1097998534492414930 : Unit := ()
noncomputable def tw17258206423299326598 : Unit := ()
noncomputable def tw4377701919642642989 : Unit := ()
noncomputable def tw15114108414909977919 : Unit := ()
noncomputable def tw4702841417184801058 : Unit := ()
noncomputable def tw15083628210047938546 : Unit := ()
noncomputable def tw18241275227582772068 : Unit := ()
noncomputable def tw14892549342360969540 : Unit := ()
noncomputable def tw9237616624170024493 : Unit := ()
noncomputable def tw6663896369628448293 : Unit := ()
noncomputable def tw15529170255622000948 : Unit := ()
noncomputable def tw7540655947842036084 : Unit := ()
noncomputable def tw5511420028821071320 : Unit := ()
noncomputable def tw6555240042291301478 : Unit := ()
noncomputable def tw16640546478005224243 : Unit := ()
noncomputable def tw8226494294326810461 : Unit := ()
noncomputable def tw6830512106363814048 : Unit := ()
noncomputable def tw6184460063843016694 : Unit := ()
noncomputable def tw18264374347568628810 : Unit := ()
noncomputable def tw17681399029576232318 : Unit := ()
noncomputable def tw5657824000916062451 : Unit := ()
noncomputable def tw5567388512258382067 : Unit := ()
noncomputable def tw7023726343779634624 : Unit := ()
noncomputable def tw11162318198679636149 : Unit := ()
noncomputable def tw7082855905992002993 : Unit := ()
noncomputable def tw3704167492566942397 : Unit := ()
noncomputable def tw7676003278276379012 : Unit := ()
noncomputable def tw3571134770919094901 : Unit := ()
noncomputable def tw13638418597567726942 : Unit := ()
noncomputable def tw8457440626546761165 : Unit := ()
noncomputable def tw13330244855972007585 : Unit := ()
noncomputable def tw226724450230711188 : Unit := ()
noncomputable def tw13642289790063256904 : Unit := ()
noncomputable def tw7512474625130614241 : Unit := ()
noncomputable def tw16029623286316568529 : Unit := ()
noncomputable def tw1699103778626983548 : Unit := ()
noncomputable def tw1903866087469309809 : Unit := ()
end hd
set_option Elab.async true in
theorem hd (hW : WalkAll) : PySem.Challenge.rw_qz0079_01.Holds := by
  w_on
  refine holds_law Mine.said fun said => ?_
  refine (fun (_ : WalkAll) => ?main) ?hc
  case main =>
    o_head (kHook Mine.hd0.heap_1 hA hA_ok)
    (case hw => w_witness2)
  exact hW
/-- (the head is done before the parts begin) -/
theorem hd_done : True := trivial
section Parts
set_option autoImplicit false
local macro_rules | `(tactic| walk_at $s:str) => `(tactic| k_extra $s)
local macro_rules | `(tactic| k_mem) => `(tactic| walk_at "c mem")
local macro_rules | `(tactic| k_room) => `(tactic| walk_at "c dp")
local macro_rules | `(tactic| ktr_room) => `(tactic| walk_at "c dp")
local macro_rules | `(tactic| ktr_units) => `(tactic| walk_at "c un")
local macro_rules | `(tactic| mul_fits) => `(tactic| walk_at "c mul")
local macro_rules | `(tactic| k_all) => `(tactic| walk_at "c all")
local macro_rules | `(tactic| k_ne) => `(tactic| walk_at "c ne")
section PartCbase
noncomputable abbrev VW := Mine.hv
noncomputable abbrev LS := looseW Mine.hv [PySem.Str.ofString "PaperError", PySem.Str.ofString "appearance_of", PySem.Str.ofString "appearance_placed"]

/-- the dict of a Decimal that stands for q -/
noncomputable abbrev decObj (w : World) (q : Rat) (k1 k2 k3 k4 : Tok) : Obj :=
  dictOf [{ hash := PyData.keyHash w.params (PySem.Str.ofString "top"), key := .str (PySem.Str.ofString "top") k1, val := .int (dtop q) k2 },
    { hash := PyData.keyHash w.params (PySem.Str.ofString "places"), key := .str (PySem.Str.ofString "places") k3, val := .int (dplc q) k4 }] 2

/-- the end of a call that makes a Decimal for q -/
def RetDec (w : World) (h₀ : Heap) (L : Addr) (m : PySem.Str → Option Value) (news : List (Addr × Obj)) (s : Shared) (Q : Value → Shared → Prop) (q : Rat) (n : Nat) : Prop :=
  ∀ x dx k1 k2 k3 k4 h' tk', Fr h₀ L h' m → News h₀ L h' ((x, instObj 155 dx) :: (dx, decObj w q k1 k2 k3 k4) :: news) → AllLt dx news → dx < x → DecQ q n → Q (.ref x) { s with heap := h', toks := tk' }
/-- the dict of a Matrix -/
abbrev matObj (w : World) (a b c d e f : Addr) (k1 k2 k3 k4 k5 k6 : Tok) : Obj :=
  dictOf [{ hash := PyData.keyHash w.params (PySem.Str.ofString "a"), key := .str (PySem.Str.ofString "a") k1, val := .ref a },
    { hash := PyData.keyHash w.params (PySem.Str.ofString "b"), key := .str (PySem.Str.ofString "b") k2, val := .ref b },
    { hash := PyData.keyHash w.params (PySem.Str.ofString "c"), key := .str (PySem.Str.ofString "c") k3, val := .ref c },
    { hash := PyData.keyHash w.params (PySem.Str.ofString "d"), key := .str (PySem.Str.ofString "d") k4, val := .ref d },
    { hash := PyData.keyHash w.params (PySem.Str.ofString "e"), key := .str (PySem.Str.ofString "e") k5, val := .ref e },
    { hash := PyData.keyHash w.params (PySem.Str.ofString "f"), key := .str (PySem.Str.ofString "f") k6, val := .ref f }] 6
theorem units_make (A : Around) (args : Args) : (A.under (.builtin "type.__call__" args)).units = A.units + 1 := rfl
/-- all of l is younger than all of news -/
def Fresh (news l : List (Addr × Obj)) : Prop := ∀ q ∈ l, AllLt q.1 news
/-- the end of a call that makes a Matrix of six Decimals, all new -/
def RetMat (w : World) (h₀ : Heap) (L : Addr) (m : PySem.Str → Option Value) (news : List (Addr × Obj)) (s : Shared) (Q : Value → Shared → Prop) (qa qb qc qd qe qf : Rat) (n : Nat) : Prop :=
  ∀ x dx k1 k2 k3 k4 k5 k6 a da ka1 ka2 ka3 ka4 b db kb1 kb2 kb3 kb4 c dc kc1 kc2 kc3 kc4 d dd kd1 kd2 kd3 kd4 e de ke1 ke2 ke3 ke4 f df kf1 kf2 kf3 kf4 h' tk', Fr h₀ L h' m → News h₀ L h' ((x, instObj 279 dx) :: (dx, matObj w a b c d e f k1 k2 k3 k4 k5 k6) :: (a, instObj 155 da) :: (da, decObj w qa ka1 ka2 ka3 ka4) :: (b, instObj 155 db) :: (db, decObj w qb kb1 kb2 kb3 kb4) :: (c, instObj 155 dc) :: (dc, decObj w qc kc1 kc2 kc3 kc4) :: (d, instObj 155 dd) :: (dd, decObj w qd kd1 kd2 kd3 kd4) :: (e, instObj 155 de) :: (de, decObj w qe ke1 ke2 ke3 ke4) :: (f, instObj 155 df) :: (df, decObj w qf kf1 kf2 kf3 kf4) :: news) →
    Fresh news [(x, instObj 279 dx), (dx, matObj w a b c d e f k1 k2 k3 k4 k5 k6), (a, instObj 155 da), (da, decObj w qa ka1 ka2 ka3 ka4), (b, instObj 155 db), (db, decObj w qb kb1 kb2 kb3 kb4), (c, instObj 155 dc), (dc, decObj w qc kc1 kc2 kc3 kc4), (d, instObj 155 dd), (dd, decObj w qd kd1 kd2 kd3 kd4), (e, instObj 155 de), (de, decObj w qe ke1 ke2 ke3 ke4), (f, instObj 155 df), (df, decObj w qf kf1 kf2 kf3 kf4)] → DecQ qa n → DecQ qb n → DecQ qc n → DecQ qd n → DecQ qe n → DecQ qf n → Q (.ref x) { s with heap := h', toks := tk' }
/-- the entry at a place -/
noncomputable def nthL {α : Type} : List α → Nat → Option α
  | [], _ => none
  | x :: _, 0 => some x
  | _ :: l, n + 1 => nthL l n
theorem mem_nth {α : Type} {p : α} : ∀ {l : List α} (i : Nat), nthL l i = some p → p ∈ l
  | _ :: _, 0, h => by cases h; exact .head _
  | _ :: _, i + 1, h => .tail _ (mem_nth i h)
theorem mem_skip {α : Type} {p a b c d e f g h i j : α} {l : List α} (m : p ∈ l) : p ∈ a :: b :: c :: d :: e :: f :: g :: h :: i :: j :: l :=
  .tail _ (.tail _ (.tail _ (.tail _ (.tail _ (.tail _ (.tail _ (.tail _ (.tail _ (.tail _ m)))))))))
theorem room1 {d a b c : Nat} (h : d + a < c) (k : Nat.ble b a = true) : d + b < c := Nat.lt_of_le_of_lt (Nat.add_le_add_left (Nat.le_of_ble_eq_true k) d) h
theorem room2 {d a b c e : Nat} (h : d + a < c) (k : Nat.ble (e + b) a = true) : d + e + b < c := by rw [Nat.add_assoc]; exact room1 h k
theorem room3 {d a b c e f : Nat} (h : d + a < c) (k : Nat.ble (e + (f + b)) a = true) : d + e + f + b < c := by rw [Nat.add_assoc]; exact room2 h k
theorem room4 {d a b c e f g : Nat} (h : d + a < c) (k : Nat.ble (e + (f + (g + b))) a = true) : d + e + f + g + b < c := by rw [Nat.add_assoc]; exact room3 h k
/-- x lies above the block's own three -/
def Abv3 (I C D x : Addr) : Prop := @LT.lt Nat _ I x ∧ @LT.lt Nat _ C x ∧ @LT.lt Nat _ D x
theorem abv3 {I C D x : Addr} {r : Prop} (h : @LT.lt Nat _ I x ∧ @LT.lt Nat _ C x ∧ @LT.lt Nat _ D x ∧ r) : Abv3 I C D x := ⟨h.1, h.2.1, h.2.2.1⟩
theorem abv3_1 {I C D x : Addr} {p1 r : Prop} (h : p1 ∧ @LT.lt Nat _ I x ∧ @LT.lt Nat _ C x ∧ @LT.lt Nat _ D x ∧ r) : Abv3 I C D x := abv3 h.2
theorem abv3_2 {I C D x : Addr} {p1 p2 r : Prop} (h : p1 ∧ p2 ∧ @LT.lt Nat _ I x ∧ @LT.lt Nat _ C x ∧ @LT.lt Nat _ D x ∧ r) : Abv3 I C D x := abv3 h.2.2
theorem abv3_3 {I C D x : Addr} {p1 p2 p3 r : Prop} (h : p1 ∧ p2 ∧ p3 ∧ @LT.lt Nat _ I x ∧ @LT.lt Nat _ C x ∧ @LT.lt Nat _ D x ∧ r) : Abv3 I C D x := abv3 h.2.2.2
theorem abv3_4 {I C D x : Addr} {p1 p2 p3 p4 r : Prop} (h : p1 ∧ p2 ∧ p3 ∧ p4 ∧ @LT.lt Nat _ I x ∧ @LT.lt Nat _ C x ∧ @LT.lt Nat _ D x ∧ r) : Abv3 I C D x := abv3 h.2.2.2.2
theorem Abv3.tr {I C D x y : Addr} (h : @LT.lt Nat _ y x) (k : Abv3 I C D y) : Abv3 I C D x := ⟨Nat.lt_trans k.1 h, Nat.lt_trans k.2.1 h, Nat.lt_trans k.2.2 h⟩
theorem cj0 {q r : Prop} (h : q ∧ r := by assumption) : q := h.1
theorem cj1 {p0 q r : Prop} (h : p0 ∧ q ∧ r := by assumption) : q := cj0 h.2
theorem cj2 {p0 p1 q r : Prop} (h : p0 ∧ p1 ∧ q ∧ r := by assumption) : q := cj1 h.2
theorem cj3 {p0 p1 p2 q r : Prop} (h : p0 ∧ p1 ∧ p2 ∧ q ∧ r := by assumption) : q := cj2 h.2
theorem cj4 {p0 p1 p2 p3 q r : Prop} (h : p0 ∧ p1 ∧ p2 ∧ p3 ∧ q ∧ r := by assumption) : q := cj3 h.2
theorem cj5 {p0 p1 p2 p3 p4 q r : Prop} (h : p0 ∧ p1 ∧ p2 ∧ p3 ∧ p4 ∧ q ∧ r := by assumption) : q := cj4 h.2
theorem cj6 {p0 p1 p2 p3 p4 p5 q r : Prop} (h : p0 ∧ p1 ∧ p2 ∧ p3 ∧ p4 ∧ p5 ∧ q ∧ r := by assumption) : q := cj5 h.2
theorem cj7 {p0 p1 p2 p3 p4 p5 p6 q r : Prop} (h : p0 ∧ p1 ∧ p2 ∧ p3 ∧ p4 ∧ p5 ∧ p6 ∧ q ∧ r := by assumption) : q := cj6 h.2
theorem cj8 {p0 p1 p2 p3 p4 p5 p6 p7 q r : Prop} (h : p0 ∧ p1 ∧ p2 ∧ p3 ∧ p4 ∧ p5 ∧ p6 ∧ p7 ∧ q ∧ r := by assumption) : q := cj7 h.2
theorem cj9 {p0 p1 p2 p3 p4 p5 p6 p7 p8 q r : Prop} (h : p0 ∧ p1 ∧ p2 ∧ p3 ∧ p4 ∧ p5 ∧ p6 ∧ p7 ∧ p8 ∧ q ∧ r := by assumption) : q := cj8 h.2
theorem cj10 {p0 p1 p2 p3 p4 p5 p6 p7 p8 p9 q r : Prop} (h : p0 ∧ p1 ∧ p2 ∧ p3 ∧ p4 ∧ p5 ∧ p6 ∧ p7 ∧ p8 ∧ p9 ∧ q ∧ r := by assumption) : q := cj9 h.2
theorem cj11 {p0 p1 p2 p3 p4 p5 p6 p7 p8 p9 p10 q r : Prop} (h : p0 ∧ p1 ∧ p2 ∧ p3 ∧ p4 ∧ p5 ∧ p6 ∧ p7 ∧ p8 ∧ p9 ∧ p10 ∧ q ∧ r := by assumption) : q := cj10 h.2
theorem cj12 {p0 p1 p2 p3 p4 p5 p6 p7 p8 p9 p10 p11 q r : Prop} (h : p0 ∧ p1 ∧ p2 ∧ p3 ∧ p4 ∧ p5 ∧ p6 ∧ p7 ∧ p8 ∧ p9 ∧ p10 ∧ p11 ∧ q ∧ r := by assumption) : q := cj11 h.2
theorem cj13 {p0 p1 p2 p3 p4 p5 p6 p7 p8 p9 p10 p11 p12 q r : Prop} (h : p0 ∧ p1 ∧ p2 ∧ p3 ∧ p4 ∧ p5 ∧ p6 ∧ p7 ∧ p8 ∧ p9 ∧ p10 ∧ p11 ∧ p12 ∧ q ∧ r := by assumption) : q := cj12 h.2
theorem cj14 {p0 p1 p2 p3 p4 p5 p6 p7 p8 p9 p10 p11 p12 p13 q r : Prop} (h : p0 ∧ p1 ∧ p2 ∧ p3 ∧ p4 ∧ p5 ∧ p6 ∧ p7 ∧ p8 ∧ p9 ∧ p10 ∧ p11 ∧ p12 ∧ p13 ∧ q ∧ r := by assumption) : q := cj13 h.2
theorem cj15 {p0 p1 p2 p3 p4 p5 p6 p7 p8 p9 p10 p11 p12 p13 p14 q r : Prop} (h : p0 ∧ p1 ∧ p2 ∧ p3 ∧ p4 ∧ p5 ∧ p6 ∧ p7 ∧ p8 ∧ p9 ∧ p10 ∧ p11 ∧ p12 ∧ p13 ∧ p14 ∧ q ∧ r := by assumption) : q := cj14 h.2
theorem cj16 {p0 p1 p2 p3 p4 p5 p6 p7 p8 p9 p10 p11 p12 p13 p14 p15 q r : Prop} (h : p0 ∧ p1 ∧ p2 ∧ p3 ∧ p4 ∧ p5 ∧ p6 ∧ p7 ∧ p8 ∧ p9 ∧ p10 ∧ p11 ∧ p12 ∧ p13 ∧ p14 ∧ p15 ∧ q ∧ r := by assumption) : q := cj15 h.2
theorem cj17 {p0 p1 p2 p3 p4 p5 p6 p7 p8 p9 p10 p11 p12 p13 p14 p15 p16 q r : Prop} (h : p0 ∧ p1 ∧ p2 ∧ p3 ∧ p4 ∧ p5 ∧ p6 ∧ p7 ∧ p8 ∧ p9 ∧ p10 ∧ p11 ∧ p12 ∧ p13 ∧ p14 ∧ p15 ∧ p16 ∧ q ∧ r := by assumption) : q := cj16 h.2
theorem cj18 {p0 p1 p2 p3 p4 p5 p6 p7 p8 p9 p10 p11 p12 p13 p14 p15 p16 p17 q r : Prop} (h : p0 ∧ p1 ∧ p2 ∧ p3 ∧ p4 ∧ p5 ∧ p6 ∧ p7 ∧ p8 ∧ p9 ∧ p10 ∧ p11 ∧ p12 ∧ p13 ∧ p14 ∧ p15 ∧ p16 ∧ p17 ∧ q ∧ r := by assumption) : q := cj17 h.2
theorem cj19 {p0 p1 p2 p3 p4 p5 p6 p7 p8 p9 p10 p11 p12 p13 p14 p15 p16 p17 p18 q r : Prop} (h : p0 ∧ p1 ∧ p2 ∧ p3 ∧ p4 ∧ p5 ∧ p6 ∧ p7 ∧ p8 ∧ p9 ∧ p10 ∧ p11 ∧ p12 ∧ p13 ∧ p14 ∧ p15 ∧ p16 ∧ p17 ∧ p18 ∧ q ∧ r := by assumption) : q := cj18 h.2
theorem cj20 {p0 p1 p2 p3 p4 p5 p6 p7 p8 p9 p10 p11 p12 p13 p14 p15 p16 p17 p18 p19 q r : Prop} (h : p0 ∧ p1 ∧ p2 ∧ p3 ∧ p4 ∧ p5 ∧ p6 ∧ p7 ∧ p8 ∧ p9 ∧ p10 ∧ p11 ∧ p12 ∧ p13 ∧ p14 ∧ p15 ∧ p16 ∧ p17 ∧ p18 ∧ p19 ∧ q ∧ r := by assumption) : q := cj19 h.2
theorem cj21 {p0 p1 p2 p3 p4 p5 p6 p7 p8 p9 p10 p11 p12 p13 p14 p15 p16 p17 p18 p19 p20 q r : Prop} (h : p0 ∧ p1 ∧ p2 ∧ p3 ∧ p4 ∧ p5 ∧ p6 ∧ p7 ∧ p8 ∧ p9 ∧ p10 ∧ p11 ∧ p12 ∧ p13 ∧ p14 ∧ p15 ∧ p16 ∧ p17 ∧ p18 ∧ p19 ∧ p20 ∧ q ∧ r := by assumption) : q := cj20 h.2
theorem cj22 {p0 p1 p2 p3 p4 p5 p6 p7 p8 p9 p10 p11 p12 p13 p14 p15 p16 p17 p18 p19 p20 p21 q r : Prop} (h : p0 ∧ p1 ∧ p2 ∧ p3 ∧ p4 ∧ p5 ∧ p6 ∧ p7 ∧ p8 ∧ p9 ∧ p10 ∧ p11 ∧ p12 ∧ p13 ∧ p14 ∧ p15 ∧ p16 ∧ p17 ∧ p18 ∧ p19 ∧ p20 ∧ p21 ∧ q ∧ r := by assumption) : q := cj21 h.2
theorem cj23 {p0 p1 p2 p3 p4 p5 p6 p7 p8 p9 p10 p11 p12 p13 p14 p15 p16 p17 p18 p19 p20 p21 p22 q r : Prop} (h : p0 ∧ p1 ∧ p2 ∧ p3 ∧ p4 ∧ p5 ∧ p6 ∧ p7 ∧ p8 ∧ p9 ∧ p10 ∧ p11 ∧ p12 ∧ p13 ∧ p14 ∧ p15 ∧ p16 ∧ p17 ∧ p18 ∧ p19 ∧ p20 ∧ p21 ∧ p22 ∧ q ∧ r := by assumption) : q := cj22 h.2
theorem cj24 {p0 p1 p2 p3 p4 p5 p6 p7 p8 p9 p10 p11 p12 p13 p14 p15 p16 p17 p18 p19 p20 p21 p22 p23 q r : Prop} (h : p0 ∧ p1 ∧ p2 ∧ p3 ∧ p4 ∧ p5 ∧ p6 ∧ p7 ∧ p8 ∧ p9 ∧ p10 ∧ p11 ∧ p12 ∧ p13 ∧ p14 ∧ p15 ∧ p16 ∧ p17 ∧ p18 ∧ p19 ∧ p20 ∧ p21 ∧ p22 ∧ p23 ∧ q ∧ r := by assumption) : q := cj23 h.2
theorem cj25 {p0 p1 p2 p3 p4 p5 p6 p7 p8 p9 p10 p11 p12 p13 p14 p15 p16 p17 p18 p19 p20 p21 p22 p23 p24 q r : Prop} (h : p0 ∧ p1 ∧ p2 ∧ p3 ∧ p4 ∧ p5 ∧ p6 ∧ p7 ∧ p8 ∧ p9 ∧ p10 ∧ p11 ∧ p12 ∧ p13 ∧ p14 ∧ p15 ∧ p16 ∧ p17 ∧ p18 ∧ p19 ∧ p20 ∧ p21 ∧ p22 ∧ p23 ∧ p24 ∧ q ∧ r := by assumption) : q := cj24 h.2
theorem cj26 {p0 p1 p2 p3 p4 p5 p6 p7 p8 p9 p10 p11 p12 p13 p14 p15 p16 p17 p18 p19 p20 p21 p22 p23 p24 p25 q r : Prop} (h : p0 ∧ p1 ∧ p2 ∧ p3 ∧ p4 ∧ p5 ∧ p6 ∧ p7 ∧ p8 ∧ p9 ∧ p10 ∧ p11 ∧ p12 ∧ p13 ∧ p14 ∧ p15 ∧ p16 ∧ p17 ∧ p18 ∧ p19 ∧ p20 ∧ p21 ∧ p22 ∧ p23 ∧ p24 ∧ p25 ∧ q ∧ r := by assumption) : q := cj25 h.2
theorem cj27 {p0 p1 p2 p3 p4 p5 p6 p7 p8 p9 p10 p11 p12 p13 p14 p15 p16 p17 p18 p19 p20 p21 p22 p23 p24 p25 p26 q r : Prop} (h : p0 ∧ p1 ∧ p2 ∧ p3 ∧ p4 ∧ p5 ∧ p6 ∧ p7 ∧ p8 ∧ p9 ∧ p10 ∧ p11 ∧ p12 ∧ p13 ∧ p14 ∧ p15 ∧ p16 ∧ p17 ∧ p18 ∧ p19 ∧ p20 ∧ p21 ∧ p22 ∧ p23 ∧ p24 ∧ p25 ∧ p26 ∧ q ∧ r := by assumption) : q := cj26 h.2
theorem cj28 {p0 p1 p2 p3 p4 p5 p6 p7 p8 p9 p10 p11 p12 p13 p14 p15 p16 p17 p18 p19 p20 p21 p22 p23 p24 p25 p26 p27 q r : Prop} (h : p0 ∧ p1 ∧ p2 ∧ p3 ∧ p4 ∧ p5 ∧ p6 ∧ p7 ∧ p8 ∧ p9 ∧ p10 ∧ p11 ∧ p12 ∧ p13 ∧ p14 ∧ p15 ∧ p16 ∧ p17 ∧ p18 ∧ p19 ∧ p20 ∧ p21 ∧ p22 ∧ p23 ∧ p24 ∧ p25 ∧ p26 ∧ p27 ∧ q ∧ r := by assumption) : q := cj27 h.2
theorem cj29 {p0 p1 p2 p3 p4 p5 p6 p7 p8 p9 p10 p11 p12 p13 p14 p15 p16 p17 p18 p19 p20 p21 p22 p23 p24 p25 p26 p27 p28 q r : Prop} (h : p0 ∧ p1 ∧ p2 ∧ p3 ∧ p4 ∧ p5 ∧ p6 ∧ p7 ∧ p8 ∧ p9 ∧ p10 ∧ p11 ∧ p12 ∧ p13 ∧ p14 ∧ p15 ∧ p16 ∧ p17 ∧ p18 ∧ p19 ∧ p20 ∧ p21 ∧ p22 ∧ p23 ∧ p24 ∧ p25 ∧ p26 ∧ p27 ∧ p28 ∧ q ∧ r := by assumption) : q := cj28 h.2
theorem cj30 {p0 p1 p2 p3 p4 p5 p6 p7 p8 p9 p10 p11 p12 p13 p14 p15 p16 p17 p18 p19 p20 p21 p22 p23 p24 p25 p26 p27 p28 p29 q r : Prop} (h : p0 ∧ p1 ∧ p2 ∧ p3 ∧ p4 ∧ p5 ∧ p6 ∧ p7 ∧ p8 ∧ p9 ∧ p10 ∧ p11 ∧ p12 ∧ p13 ∧ p14 ∧ p15 ∧ p16 ∧ p17 ∧ p18 ∧ p19 ∧ p20 ∧ p21 ∧ p22 ∧ p23 ∧ p24 ∧ p25 ∧ p26 ∧ p27 ∧ p28 ∧ p29 ∧ q ∧ r := by assumption) : q := cj29 h.2
theorem cj31 {p0 p1 p2 p3 p4 p5 p6 p7 p8 p9 p10 p11 p12 p13 p14 p15 p16 p17 p18 p19 p20 p21 p22 p23 p24 p25 p26 p27 p28 p29 p30 q r : Prop} (h : p0 ∧ p1 ∧ p2 ∧ p3 ∧ p4 ∧ p5 ∧ p6 ∧ p7 ∧ p8 ∧ p9 ∧ p10 ∧ p11 ∧ p12 ∧ p13 ∧ p14 ∧ p15 ∧ p16 ∧ p17 ∧ p18 ∧ p19 ∧ p20 ∧ p21 ∧ p22 ∧ p23 ∧ p24 ∧ p25 ∧ p26 ∧ p27 ∧ p28 ∧ p29 ∧ p30 ∧ q ∧ r := by assumption) : q := cj30 h.2
theorem cj32 {p0 p1 p2 p3 p4 p5 p6 p7 p8 p9 p10 p11 p12 p13 p14 p15 p16 p17 p18 p19 p20 p21 p22 p23 p24 p25 p26 p27 p28 p29 p30 p31 q r : Prop} (h : p0 ∧ p1 ∧ p2 ∧ p3 ∧ p4 ∧ p5 ∧ p6 ∧ p7 ∧ p8 ∧ p9 ∧ p10 ∧ p11 ∧ p12 ∧ p13 ∧ p14 ∧ p15 ∧ p16 ∧ p17 ∧ p18 ∧ p19 ∧ p20 ∧ p21 ∧ p22 ∧ p23 ∧ p24 ∧ p25 ∧ p26 ∧ p27 ∧ p28 ∧ p29 ∧ p30 ∧ p31 ∧ q ∧ r := by assumption) : q := cj31 h.2
theorem cj33 {p0 p1 p2 p3 p4 p5 p6 p7 p8 p9 p10 p11 p12 p13 p14 p15 p16 p17 p18 p19 p20 p21 p22 p23 p24 p25 p26 p27 p28 p29 p30 p31 p32 q r : Prop} (h : p0 ∧ p1 ∧ p2 ∧ p3 ∧ p4 ∧ p5 ∧ p6 ∧ p7 ∧ p8 ∧ p9 ∧ p10 ∧ p11 ∧ p12 ∧ p13 ∧ p14 ∧ p15 ∧ p16 ∧ p17 ∧ p18 ∧ p19 ∧ p20 ∧ p21 ∧ p22 ∧ p23 ∧ p24 ∧ p25 ∧ p26 ∧ p27 ∧ p28 ∧ p29 ∧ p30 ∧ p31 ∧ p32 ∧ q ∧ r := by assumption) : q := cj32 h.2
theorem cj34 {p0 p1 p2 p3 p4 p5 p6 p7 p8 p9 p10 p11 p12 p13 p14 p15 p16 p17 p18 p19 p20 p21 p22 p23 p24 p25 p26 p27 p28 p29 p30 p31 p32 p33 q r : Prop} (h : p0 ∧ p1 ∧ p2 ∧ p3 ∧ p4 ∧ p5 ∧ p6 ∧ p7 ∧ p8 ∧ p9 ∧ p10 ∧ p11 ∧ p12 ∧ p13 ∧ p14 ∧ p15 ∧ p16 ∧ p17 ∧ p18 ∧ p19 ∧ p20 ∧ p21 ∧ p22 ∧ p23 ∧ p24 ∧ p25 ∧ p26 ∧ p27 ∧ p28 ∧ p29 ∧ p30 ∧ p31 ∧ p32 ∧ p33 ∧ q ∧ r := by assumption) : q := cj33 h.2
theorem cj35 {p0 p1 p2 p3 p4 p5 p6 p7 p8 p9 p10 p11 p12 p13 p14 p15 p16 p17 p18 p19 p20 p21 p22 p23 p24 p25 p26 p27 p28 p29 p30 p31 p32 p33 p34 q r : Prop} (h : p0 ∧ p1 ∧ p2 ∧ p3 ∧ p4 ∧ p5 ∧ p6 ∧ p7 ∧ p8 ∧ p9 ∧ p10 ∧ p11 ∧ p12 ∧ p13 ∧ p14 ∧ p15 ∧ p16 ∧ p17 ∧ p18 ∧ p19 ∧ p20 ∧ p21 ∧ p22 ∧ p23 ∧ p24 ∧ p25 ∧ p26 ∧ p27 ∧ p28 ∧ p29 ∧ p30 ∧ p31 ∧ p32 ∧ p33 ∧ p34 ∧ q ∧ r := by assumption) : q := cj34 h.2
theorem cj36 {p0 p1 p2 p3 p4 p5 p6 p7 p8 p9 p10 p11 p12 p13 p14 p15 p16 p17 p18 p19 p20 p21 p22 p23 p24 p25 p26 p27 p28 p29 p30 p31 p32 p33 p34 p35 q r : Prop} (h : p0 ∧ p1 ∧ p2 ∧ p3 ∧ p4 ∧ p5 ∧ p6 ∧ p7 ∧ p8 ∧ p9 ∧ p10 ∧ p11 ∧ p12 ∧ p13 ∧ p14 ∧ p15 ∧ p16 ∧ p17 ∧ p18 ∧ p19 ∧ p20 ∧ p21 ∧ p22 ∧ p23 ∧ p24 ∧ p25 ∧ p26 ∧ p27 ∧ p28 ∧ p29 ∧ p30 ∧ p31 ∧ p32 ∧ p33 ∧ p34 ∧ p35 ∧ q ∧ r := by assumption) : q := cj35 h.2
theorem cj37 {p0 p1 p2 p3 p4 p5 p6 p7 p8 p9 p10 p11 p12 p13 p14 p15 p16 p17 p18 p19 p20 p21 p22 p23 p24 p25 p26 p27 p28 p29 p30 p31 p32 p33 p34 p35 p36 q r : Prop} (h : p0 ∧ p1 ∧ p2 ∧ p3 ∧ p4 ∧ p5 ∧ p6 ∧ p7 ∧ p8 ∧ p9 ∧ p10 ∧ p11 ∧ p12 ∧ p13 ∧ p14 ∧ p15 ∧ p16 ∧ p17 ∧ p18 ∧ p19 ∧ p20 ∧ p21 ∧ p22 ∧ p23 ∧ p24 ∧ p25 ∧ p26 ∧ p27 ∧ p28 ∧ p29 ∧ p30 ∧ p31 ∧ p32 ∧ p33 ∧ p34 ∧ p35 ∧ p36 ∧ q ∧ r := by assumption) : q := cj36 h.2
theorem cj38 {p0 p1 p2 p3 p4 p5 p6 p7 p8 p9 p10 p11 p12 p13 p14 p15 p16 p17 p18 p19 p20 p21 p22 p23 p24 p25 p26 p27 p28 p29 p30 p31 p32 p33 p34 p35 p36 p37 q r : Prop} (h : p0 ∧ p1 ∧ p2 ∧ p3 ∧ p4 ∧ p5 ∧ p6 ∧ p7 ∧ p8 ∧ p9 ∧ p10 ∧ p11 ∧ p12 ∧ p13 ∧ p14 ∧ p15 ∧ p16 ∧ p17 ∧ p18 ∧ p19 ∧ p20 ∧ p21 ∧ p22 ∧ p23 ∧ p24 ∧ p25 ∧ p26 ∧ p27 ∧ p28 ∧ p29 ∧ p30 ∧ p31 ∧ p32 ∧ p33 ∧ p34 ∧ p35 ∧ p36 ∧ p37 ∧ q ∧ r := by assumption) : q := cj37 h.2
theorem cj39 {p0 p1 p2 p3 p4 p5 p6 p7 p8 p9 p10 p11 p12 p13 p14 p15 p16 p17 p18 p19 p20 p21 p22 p23 p24 p25 p26 p27 p28 p29 p30 p31 p32 p33 p34 p35 p36 p37 p38 q r : Prop} (h : p0 ∧ p1 ∧ p2 ∧ p3 ∧ p4 ∧ p5 ∧ p6 ∧ p7 ∧ p8 ∧ p9 ∧ p10 ∧ p11 ∧ p12 ∧ p13 ∧ p14 ∧ p15 ∧ p16 ∧ p17 ∧ p18 ∧ p19 ∧ p20 ∧ p21 ∧ p22 ∧ p23 ∧ p24 ∧ p25 ∧ p26 ∧ p27 ∧ p28 ∧ p29 ∧ p30 ∧ p31 ∧ p32 ∧ p33 ∧ p34 ∧ p35 ∧ p36 ∧ p37 ∧ p38 ∧ q ∧ r := by assumption) : q := cj38 h.2
theorem cr1 {p0 r : Prop} (h : p0 ∧ r) : r := h.2
theorem cr2 {p0 p1 r : Prop} (h : p0 ∧ p1 ∧ r) : r := cr1 h.2
theorem cr3 {p0 p1 p2 r : Prop} (h : p0 ∧ p1 ∧ p2 ∧ r) : r := cr2 h.2
theorem cr4 {p0 p1 p2 p3 r : Prop} (h : p0 ∧ p1 ∧ p2 ∧ p3 ∧ r) : r := cr3 h.2
theorem cr5 {p0 p1 p2 p3 p4 r : Prop} (h : p0 ∧ p1 ∧ p2 ∧ p3 ∧ p4 ∧ r) : r := cr4 h.2
theorem cr6 {p0 p1 p2 p3 p4 p5 r : Prop} (h : p0 ∧ p1 ∧ p2 ∧ p3 ∧ p4 ∧ p5 ∧ r) : r := cr5 h.2
theorem cr7 {p0 p1 p2 p3 p4 p5 p6 r : Prop} (h : p0 ∧ p1 ∧ p2 ∧ p3 ∧ p4 ∧ p5 ∧ p6 ∧ r) : r := cr6 h.2
theorem cr8 {p0 p1 p2 p3 p4 p5 p6 p7 r : Prop} (h : p0 ∧ p1 ∧ p2 ∧ p3 ∧ p4 ∧ p5 ∧ p6 ∧ p7 ∧ r) : r := cr7 h.2
theorem cr9 {p0 p1 p2 p3 p4 p5 p6 p7 p8 r : Prop} (h : p0 ∧ p1 ∧ p2 ∧ p3 ∧ p4 ∧ p5 ∧ p6 ∧ p7 ∧ p8 ∧ r) : r := cr8 h.2
theorem cr10 {p0 p1 p2 p3 p4 p5 p6 p7 p8 p9 r : Prop} (h : p0 ∧ p1 ∧ p2 ∧ p3 ∧ p4 ∧ p5 ∧ p6 ∧ p7 ∧ p8 ∧ p9 ∧ r) : r := cr9 h.2
theorem cr11 {p0 p1 p2 p3 p4 p5 p6 p7 p8 p9 p10 r : Prop} (h : p0 ∧ p1 ∧ p2 ∧ p3 ∧ p4 ∧ p5 ∧ p6 ∧ p7 ∧ p8 ∧ p9 ∧ p10 ∧ r) : r := cr10 h.2
theorem cr12 {p0 p1 p2 p3 p4 p5 p6 p7 p8 p9 p10 p11 r : Prop} (h : p0 ∧ p1 ∧ p2 ∧ p3 ∧ p4 ∧ p5 ∧ p6 ∧ p7 ∧ p8 ∧ p9 ∧ p10 ∧ p11 ∧ r) : r := cr11 h.2
theorem cr13 {p0 p1 p2 p3 p4 p5 p6 p7 p8 p9 p10 p11 p12 r : Prop} (h : p0 ∧ p1 ∧ p2 ∧ p3 ∧ p4 ∧ p5 ∧ p6 ∧ p7 ∧ p8 ∧ p9 ∧ p10 ∧ p11 ∧ p12 ∧ r) : r := cr12 h.2
theorem cr14 {p0 p1 p2 p3 p4 p5 p6 p7 p8 p9 p10 p11 p12 p13 r : Prop} (h : p0 ∧ p1 ∧ p2 ∧ p3 ∧ p4 ∧ p5 ∧ p6 ∧ p7 ∧ p8 ∧ p9 ∧ p10 ∧ p11 ∧ p12 ∧ p13 ∧ r) : r := cr13 h.2
theorem cr15 {p0 p1 p2 p3 p4 p5 p6 p7 p8 p9 p10 p11 p12 p13 p14 r : Prop} (h : p0 ∧ p1 ∧ p2 ∧ p3 ∧ p4 ∧ p5 ∧ p6 ∧ p7 ∧ p8 ∧ p9 ∧ p10 ∧ p11 ∧ p12 ∧ p13 ∧ p14 ∧ r) : r := cr14 h.2
theorem cr16 {p0 p1 p2 p3 p4 p5 p6 p7 p8 p9 p10 p11 p12 p13 p14 p15 r : Prop} (h : p0 ∧ p1 ∧ p2 ∧ p3 ∧ p4 ∧ p5 ∧ p6 ∧ p7 ∧ p8 ∧ p9 ∧ p10 ∧ p11 ∧ p12 ∧ p13 ∧ p14 ∧ p15 ∧ r) : r := cr15 h.2
theorem cr17 {p0 p1 p2 p3 p4 p5 p6 p7 p8 p9 p10 p11 p12 p13 p14 p15 p16 r : Prop} (h : p0 ∧ p1 ∧ p2 ∧ p3 ∧ p4 ∧ p5 ∧ p6 ∧ p7 ∧ p8 ∧ p9 ∧ p10 ∧ p11 ∧ p12 ∧ p13 ∧ p14 ∧ p15 ∧ p16 ∧ r) : r := cr16 h.2
theorem cr18 {p0 p1 p2 p3 p4 p5 p6 p7 p8 p9 p10 p11 p12 p13 p14 p15 p16 p17 r : Prop} (h : p0 ∧ p1 ∧ p2 ∧ p3 ∧ p4 ∧ p5 ∧ p6 ∧ p7 ∧ p8 ∧ p9 ∧ p10 ∧ p11 ∧ p12 ∧ p13 ∧ p14 ∧ p15 ∧ p16 ∧ p17 ∧ r) : r := cr17 h.2
theorem cr19 {p0 p1 p2 p3 p4 p5 p6 p7 p8 p9 p10 p11 p12 p13 p14 p15 p16 p17 p18 r : Prop} (h : p0 ∧ p1 ∧ p2 ∧ p3 ∧ p4 ∧ p5 ∧ p6 ∧ p7 ∧ p8 ∧ p9 ∧ p10 ∧ p11 ∧ p12 ∧ p13 ∧ p14 ∧ p15 ∧ p16 ∧ p17 ∧ p18 ∧ r) : r := cr18 h.2
theorem cr20 {p0 p1 p2 p3 p4 p5 p6 p7 p8 p9 p10 p11 p12 p13 p14 p15 p16 p17 p18 p19 r : Prop} (h : p0 ∧ p1 ∧ p2 ∧ p3 ∧ p4 ∧ p5 ∧ p6 ∧ p7 ∧ p8 ∧ p9 ∧ p10 ∧ p11 ∧ p12 ∧ p13 ∧ p14 ∧ p15 ∧ p16 ∧ p17 ∧ p18 ∧ p19 ∧ r) : r := cr19 h.2
theorem cr21 {p0 p1 p2 p3 p4 p5 p6 p7 p8 p9 p10 p11 p12 p13 p14 p15 p16 p17 p18 p19 p20 r : Prop} (h : p0 ∧ p1 ∧ p2 ∧ p3 ∧ p4 ∧ p5 ∧ p6 ∧ p7 ∧ p8 ∧ p9 ∧ p10 ∧ p11 ∧ p12 ∧ p13 ∧ p14 ∧ p15 ∧ p16 ∧ p17 ∧ p18 ∧ p19 ∧ p20 ∧ r) : r := cr20 h.2
theorem cr22 {p0 p1 p2 p3 p4 p5 p6 p7 p8 p9 p10 p11 p12 p13 p14 p15 p16 p17 p18 p19 p20 p21 r : Prop} (h : p0 ∧ p1 ∧ p2 ∧ p3 ∧ p4 ∧ p5 ∧ p6 ∧ p7 ∧ p8 ∧ p9 ∧ p10 ∧ p11 ∧ p12 ∧ p13 ∧ p14 ∧ p15 ∧ p16 ∧ p17 ∧ p18 ∧ p19 ∧ p20 ∧ p21 ∧ r) : r := cr21 h.2
theorem cr23 {p0 p1 p2 p3 p4 p5 p6 p7 p8 p9 p10 p11 p12 p13 p14 p15 p16 p17 p18 p19 p20 p21 p22 r : Prop} (h : p0 ∧ p1 ∧ p2 ∧ p3 ∧ p4 ∧ p5 ∧ p6 ∧ p7 ∧ p8 ∧ p9 ∧ p10 ∧ p11 ∧ p12 ∧ p13 ∧ p14 ∧ p15 ∧ p16 ∧ p17 ∧ p18 ∧ p19 ∧ p20 ∧ p21 ∧ p22 ∧ r) : r := cr22 h.2
theorem cr24 {p0 p1 p2 p3 p4 p5 p6 p7 p8 p9 p10 p11 p12 p13 p14 p15 p16 p17 p18 p19 p20 p21 p22 p23 r : Prop} (h : p0 ∧ p1 ∧ p2 ∧ p3 ∧ p4 ∧ p5 ∧ p6 ∧ p7 ∧ p8 ∧ p9 ∧ p10 ∧ p11 ∧ p12 ∧ p13 ∧ p14 ∧ p15 ∧ p16 ∧ p17 ∧ p18 ∧ p19 ∧ p20 ∧ p21 ∧ p22 ∧ p23 ∧ r) : r := cr23 h.2
theorem cr25 {p0 p1 p2 p3 p4 p5 p6 p7 p8 p9 p10 p11 p12 p13 p14 p15 p16 p17 p18 p19 p20 p21 p22 p23 p24 r : Prop} (h : p0 ∧ p1 ∧ p2 ∧ p3 ∧ p4 ∧ p5 ∧ p6 ∧ p7 ∧ p8 ∧ p9 ∧ p10 ∧ p11 ∧ p12 ∧ p13 ∧ p14 ∧ p15 ∧ p16 ∧ p17 ∧ p18 ∧ p19 ∧ p20 ∧ p21 ∧ p22 ∧ p23 ∧ p24 ∧ r) : r := cr24 h.2
theorem cr26 {p0 p1 p2 p3 p4 p5 p6 p7 p8 p9 p10 p11 p12 p13 p14 p15 p16 p17 p18 p19 p20 p21 p22 p23 p24 p25 r : Prop} (h : p0 ∧ p1 ∧ p2 ∧ p3 ∧ p4 ∧ p5 ∧ p6 ∧ p7 ∧ p8 ∧ p9 ∧ p10 ∧ p11 ∧ p12 ∧ p13 ∧ p14 ∧ p15 ∧ p16 ∧ p17 ∧ p18 ∧ p19 ∧ p20 ∧ p21 ∧ p22 ∧ p23 ∧ p24 ∧ p25 ∧ r) : r := cr25 h.2
theorem cr27 {p0 p1 p2 p3 p4 p5 p6 p7 p8 p9 p10 p11 p12 p13 p14 p15 p16 p17 p18 p19 p20 p21 p22 p23 p24 p25 p26 r : Prop} (h : p0 ∧ p1 ∧ p2 ∧ p3 ∧ p4 ∧ p5 ∧ p6 ∧ p7 ∧ p8 ∧ p9 ∧ p10 ∧ p11 ∧ p12 ∧ p13 ∧ p14 ∧ p15 ∧ p16 ∧ p17 ∧ p18 ∧ p19 ∧ p20 ∧ p21 ∧ p22 ∧ p23 ∧ p24 ∧ p25 ∧ p26 ∧ r) : r := cr26 h.2
theorem cr28 {p0 p1 p2 p3 p4 p5 p6 p7 p8 p9 p10 p11 p12 p13 p14 p15 p16 p17 p18 p19 p20 p21 p22 p23 p24 p25 p26 p27 r : Prop} (h : p0 ∧ p1 ∧ p2 ∧ p3 ∧ p4 ∧ p5 ∧ p6 ∧ p7 ∧ p8 ∧ p9 ∧ p10 ∧ p11 ∧ p12 ∧ p13 ∧ p14 ∧ p15 ∧ p16 ∧ p17 ∧ p18 ∧ p19 ∧ p20 ∧ p21 ∧ p22 ∧ p23 ∧ p24 ∧ p25 ∧ p26 ∧ p27 ∧ r) : r := cr27 h.2
theorem cr29 {p0 p1 p2 p3 p4 p5 p6 p7 p8 p9 p10 p11 p12 p13 p14 p15 p16 p17 p18 p19 p20 p21 p22 p23 p24 p25 p26 p27 p28 r : Prop} (h : p0 ∧ p1 ∧ p2 ∧ p3 ∧ p4 ∧ p5 ∧ p6 ∧ p7 ∧ p8 ∧ p9 ∧ p10 ∧ p11 ∧ p12 ∧ p13 ∧ p14 ∧ p15 ∧ p16 ∧ p17 ∧ p18 ∧ p19 ∧ p20 ∧ p21 ∧ p22 ∧ p23 ∧ p24 ∧ p25 ∧ p26 ∧ p27 ∧ p28 ∧ r) : r := cr28 h.2
theorem cr30 {p0 p1 p2 p3 p4 p5 p6 p7 p8 p9 p10 p11 p12 p13 p14 p15 p16 p17 p18 p19 p20 p21 p22 p23 p24 p25 p26 p27 p28 p29 r : Prop} (h : p0 ∧ p1 ∧ p2 ∧ p3 ∧ p4 ∧ p5 ∧ p6 ∧ p7 ∧ p8 ∧ p9 ∧ p10 ∧ p11 ∧ p12 ∧ p13 ∧ p14 ∧ p15 ∧ p16 ∧ p17 ∧ p18 ∧ p19 ∧ p20 ∧ p21 ∧ p22 ∧ p23 ∧ p24 ∧ p25 ∧ p26 ∧ p27 ∧ p28 ∧ p29 ∧ r) : r := cr29 h.2
theorem cr31 {p0 p1 p2 p3 p4 p5 p6 p7 p8 p9 p10 p11 p12 p13 p14 p15 p16 p17 p18 p19 p20 p21 p22 p23 p24 p25 p26 p27 p28 p29 p30 r : Prop} (h : p0 ∧ p1 ∧ p2 ∧ p3 ∧ p4 ∧ p5 ∧ p6 ∧ p7 ∧ p8 ∧ p9 ∧ p10 ∧ p11 ∧ p12 ∧ p13 ∧ p14 ∧ p15 ∧ p16 ∧ p17 ∧ p18 ∧ p19 ∧ p20 ∧ p21 ∧ p22 ∧ p23 ∧ p24 ∧ p25 ∧ p26 ∧ p27 ∧ p28 ∧ p29 ∧ p30 ∧ r) : r := cr30 h.2
theorem cr32 {p0 p1 p2 p3 p4 p5 p6 p7 p8 p9 p10 p11 p12 p13 p14 p15 p16 p17 p18 p19 p20 p21 p22 p23 p24 p25 p26 p27 p28 p29 p30 p31 r : Prop} (h : p0 ∧ p1 ∧ p2 ∧ p3 ∧ p4 ∧ p5 ∧ p6 ∧ p7 ∧ p8 ∧ p9 ∧ p10 ∧ p11 ∧ p12 ∧ p13 ∧ p14 ∧ p15 ∧ p16 ∧ p17 ∧ p18 ∧ p19 ∧ p20 ∧ p21 ∧ p22 ∧ p23 ∧ p24 ∧ p25 ∧ p26 ∧ p27 ∧ p28 ∧ p29 ∧ p30 ∧ p31 ∧ r) : r := cr31 h.2
theorem cr33 {p0 p1 p2 p3 p4 p5 p6 p7 p8 p9 p10 p11 p12 p13 p14 p15 p16 p17 p18 p19 p20 p21 p22 p23 p24 p25 p26 p27 p28 p29 p30 p31 p32 r : Prop} (h : p0 ∧ p1 ∧ p2 ∧ p3 ∧ p4 ∧ p5 ∧ p6 ∧ p7 ∧ p8 ∧ p9 ∧ p10 ∧ p11 ∧ p12 ∧ p13 ∧ p14 ∧ p15 ∧ p16 ∧ p17 ∧ p18 ∧ p19 ∧ p20 ∧ p21 ∧ p22 ∧ p23 ∧ p24 ∧ p25 ∧ p26 ∧ p27 ∧ p28 ∧ p29 ∧ p30 ∧ p31 ∧ p32 ∧ r) : r := cr32 h.2
theorem cr34 {p0 p1 p2 p3 p4 p5 p6 p7 p8 p9 p10 p11 p12 p13 p14 p15 p16 p17 p18 p19 p20 p21 p22 p23 p24 p25 p26 p27 p28 p29 p30 p31 p32 p33 r : Prop} (h : p0 ∧ p1 ∧ p2 ∧ p3 ∧ p4 ∧ p5 ∧ p6 ∧ p7 ∧ p8 ∧ p9 ∧ p10 ∧ p11 ∧ p12 ∧ p13 ∧ p14 ∧ p15 ∧ p16 ∧ p17 ∧ p18 ∧ p19 ∧ p20 ∧ p21 ∧ p22 ∧ p23 ∧ p24 ∧ p25 ∧ p26 ∧ p27 ∧ p28 ∧ p29 ∧ p30 ∧ p31 ∧ p32 ∧ p33 ∧ r) : r := cr33 h.2
theorem cr35 {p0 p1 p2 p3 p4 p5 p6 p7 p8 p9 p10 p11 p12 p13 p14 p15 p16 p17 p18 p19 p20 p21 p22 p23 p24 p25 p26 p27 p28 p29 p30 p31 p32 p33 p34 r : Prop} (h : p0 ∧ p1 ∧ p2 ∧ p3 ∧ p4 ∧ p5 ∧ p6 ∧ p7 ∧ p8 ∧ p9 ∧ p10 ∧ p11 ∧ p12 ∧ p13 ∧ p14 ∧ p15 ∧ p16 ∧ p17 ∧ p18 ∧ p19 ∧ p20 ∧ p21 ∧ p22 ∧ p23 ∧ p24 ∧ p25 ∧ p26 ∧ p27 ∧ p28 ∧ p29 ∧ p30 ∧ p31 ∧ p32 ∧ p33 ∧ p34 ∧ r) : r := cr34 h.2
theorem nl0 {r : Prop} {a b : Addr} (h : @LT.lt Nat _ a b ∧ r := by assumption) : @Ne Nat a b := Nat.ne_of_lt (cj0 h)
theorem nr0 {r : Prop} {a b : Addr} (h : @LT.lt Nat _ b a ∧ r := by assumption) : @Ne Nat a b := Nat.ne_of_gt (cj0 h)
theorem nl1 {p0 r : Prop} {a b : Addr} (h : p0 ∧ @LT.lt Nat _ a b ∧ r := by assumption) : @Ne Nat a b := Nat.ne_of_lt (cj1 h)
theorem nr1 {p0 r : Prop} {a b : Addr} (h : p0 ∧ @LT.lt Nat _ b a ∧ r := by assumption) : @Ne Nat a b := Nat.ne_of_gt (cj1 h)
theorem nl2 {p0 p1 r : Prop} {a b : Addr} (h : p0 ∧ p1 ∧ @LT.lt Nat _ a b ∧ r := by assumption) : @Ne Nat a b := Nat.ne_of_lt (cj2 h)
theorem nr2 {p0 p1 r : Prop} {a b : Addr} (h : p0 ∧ p1 ∧ @LT.lt Nat _ b a ∧ r := by assumption) : @Ne Nat a b := Nat.ne_of_gt (cj2 h)
theorem nl3 {p0 p1 p2 r : Prop} {a b : Addr} (h : p0 ∧ p1 ∧ p2 ∧ @LT.lt Nat _ a b ∧ r := by assumption) : @Ne Nat a b := Nat.ne_of_lt (cj3 h)
theorem nr3 {p0 p1 p2 r : Prop} {a b : Addr} (h : p0 ∧ p1 ∧ p2 ∧ @LT.lt Nat _ b a ∧ r := by assumption) : @Ne Nat a b := Nat.ne_of_gt (cj3 h)
theorem nl4 {p0 p1 p2 p3 r : Prop} {a b : Addr} (h : p0 ∧ p1 ∧ p2 ∧ p3 ∧ @LT.lt Nat _ a b ∧ r := by assumption) : @Ne Nat a b := Nat.ne_of_lt (cj4 h)
theorem nr4 {p0 p1 p2 p3 r : Prop} {a b : Addr} (h : p0 ∧ p1 ∧ p2 ∧ p3 ∧ @LT.lt Nat _ b a ∧ r := by assumption) : @Ne Nat a b := Nat.ne_of_gt (cj4 h)
theorem nl5 {p0 p1 p2 p3 p4 r : Prop} {a b : Addr} (h : p0 ∧ p1 ∧ p2 ∧ p3 ∧ p4 ∧ @LT.lt Nat _ a b ∧ r := by assumption) : @Ne Nat a b := Nat.ne_of_lt (cj5 h)
theorem nr5 {p0 p1 p2 p3 p4 r : Prop} {a b : Addr} (h : p0 ∧ p1 ∧ p2 ∧ p3 ∧ p4 ∧ @LT.lt Nat _ b a ∧ r := by assumption) : @Ne Nat a b := Nat.ne_of_gt (cj5 h)
theorem nl6 {p0 p1 p2 p3 p4 p5 r : Prop} {a b : Addr} (h : p0 ∧ p1 ∧ p2 ∧ p3 ∧ p4 ∧ p5 ∧ @LT.lt Nat _ a b ∧ r := by assumption) : @Ne Nat a b := Nat.ne_of_lt (cj6 h)
theorem nr6 {p0 p1 p2 p3 p4 p5 r : Prop} {a b : Addr} (h : p0 ∧ p1 ∧ p2 ∧ p3 ∧ p4 ∧ p5 ∧ @LT.lt Nat _ b a ∧ r := by assumption) : @Ne Nat a b := Nat.ne_of_gt (cj6 h)
theorem nl7 {p0 p1 p2 p3 p4 p5 p6 r : Prop} {a b : Addr} (h : p0 ∧ p1 ∧ p2 ∧ p3 ∧ p4 ∧ p5 ∧ p6 ∧ @LT.lt Nat _ a b ∧ r := by assumption) : @Ne Nat a b := Nat.ne_of_lt (cj7 h)
theorem nr7 {p0 p1 p2 p3 p4 p5 p6 r : Prop} {a b : Addr} (h : p0 ∧ p1 ∧ p2 ∧ p3 ∧ p4 ∧ p5 ∧ p6 ∧ @LT.lt Nat _ b a ∧ r := by assumption) : @Ne Nat a b := Nat.ne_of_gt (cj7 h)
theorem nl8 {p0 p1 p2 p3 p4 p5 p6 p7 r : Prop} {a b : Addr} (h : p0 ∧ p1 ∧ p2 ∧ p3 ∧ p4 ∧ p5 ∧ p6 ∧ p7 ∧ @LT.lt Nat _ a b ∧ r := by assumption) : @Ne Nat a b := Nat.ne_of_lt (cj8 h)
theorem nr8 {p0 p1 p2 p3 p4 p5 p6 p7 r : Prop} {a b : Addr} (h : p0 ∧ p1 ∧ p2 ∧ p3 ∧ p4 ∧ p5 ∧ p6 ∧ p7 ∧ @LT.lt Nat _ b a ∧ r := by assumption) : @Ne Nat a b := Nat.ne_of_gt (cj8 h)
theorem nl9 {p0 p1 p2 p3 p4 p5 p6 p7 p8 r : Prop} {a b : Addr} (h : p0 ∧ p1 ∧ p2 ∧ p3 ∧ p4 ∧ p5 ∧ p6 ∧ p7 ∧ p8 ∧ @LT.lt Nat _ a b ∧ r := by assumption) : @Ne Nat a b := Nat.ne_of_lt (cj9 h)
theorem nr9 {p0 p1 p2 p3 p4 p5 p6 p7 p8 r : Prop} {a b : Addr} (h : p0 ∧ p1 ∧ p2 ∧ p3 ∧ p4 ∧ p5 ∧ p6 ∧ p7 ∧ p8 ∧ @LT.lt Nat _ b a ∧ r := by assumption) : @Ne Nat a b := Nat.ne_of_gt (cj9 h)
theorem nl10 {p0 p1 p2 p3 p4 p5 p6 p7 p8 p9 r : Prop} {a b : Addr} (h : p0 ∧ p1 ∧ p2 ∧ p3 ∧ p4 ∧ p5 ∧ p6 ∧ p7 ∧ p8 ∧ p9 ∧ @LT.lt Nat _ a b ∧ r := by assumption) : @Ne Nat a b := Nat.ne_of_lt (cj10 h)
theorem nr10 {p0 p1 p2 p3 p4 p5 p6 p7 p8 p9 r : Prop} {a b : Addr} (h : p0 ∧ p1 ∧ p2 ∧ p3 ∧ p4 ∧ p5 ∧ p6 ∧ p7 ∧ p8 ∧ p9 ∧ @LT.lt Nat _ b a ∧ r := by assumption) : @Ne Nat a b := Nat.ne_of_gt (cj10 h)
theorem nl11 {p0 p1 p2 p3 p4 p5 p6 p7 p8 p9 p10 r : Prop} {a b : Addr} (h : p0 ∧ p1 ∧ p2 ∧ p3 ∧ p4 ∧ p5 ∧ p6 ∧ p7 ∧ p8 ∧ p9 ∧ p10 ∧ @LT.lt Nat _ a b ∧ r := by assumption) : @Ne Nat a b := Nat.ne_of_lt (cj11 h)
theorem nr11 {p0 p1 p2 p3 p4 p5 p6 p7 p8 p9 p10 r : Prop} {a b : Addr} (h : p0 ∧ p1 ∧ p2 ∧ p3 ∧ p4 ∧ p5 ∧ p6 ∧ p7 ∧ p8 ∧ p9 ∧ p10 ∧ @LT.lt Nat _ b a ∧ r := by assumption) : @Ne Nat a b := Nat.ne_of_gt (cj11 h)
theorem nl12 {p0 p1 p2 p3 p4 p5 p6 p7 p8 p9 p10 p11 r : Prop} {a b : Addr} (h : p0 ∧ p1 ∧ p2 ∧ p3 ∧ p4 ∧ p5 ∧ p6 ∧ p7 ∧ p8 ∧ p9 ∧ p10 ∧ p11 ∧ @LT.lt Nat _ a b ∧ r := by assumption) : @Ne Nat a b := Nat.ne_of_lt (cj12 h)
theorem nr12 {p0 p1 p2 p3 p4 p5 p6 p7 p8 p9 p10 p11 r : Prop} {a b : Addr} (h : p0 ∧ p1 ∧ p2 ∧ p3 ∧ p4 ∧ p5 ∧ p6 ∧ p7 ∧ p8 ∧ p9 ∧ p10 ∧ p11 ∧ @LT.lt Nat _ b a ∧ r := by assumption) : @Ne Nat a b := Nat.ne_of_gt (cj12 h)
theorem nl13 {p0 p1 p2 p3 p4 p5 p6 p7 p8 p9 p10 p11 p12 r : Prop} {a b : Addr} (h : p0 ∧ p1 ∧ p2 ∧ p3 ∧ p4 ∧ p5 ∧ p6 ∧ p7 ∧ p8 ∧ p9 ∧ p10 ∧ p11 ∧ p12 ∧ @LT.lt Nat _ a b ∧ r := by assumption) : @Ne Nat a b := Nat.ne_of_lt (cj13 h)
theorem nr13 {p0 p1 p2 p3 p4 p5 p6 p7 p8 p9 p10 p11 p12 r : Prop} {a b : Addr} (h : p0 ∧ p1 ∧ p2 ∧ p3 ∧ p4 ∧ p5 ∧ p6 ∧ p7 ∧ p8 ∧ p9 ∧ p10 ∧ p11 ∧ p12 ∧ @LT.lt Nat _ b a ∧ r := by assumption) : @Ne Nat a b := Nat.ne_of_gt (cj13 h)
theorem nl14 {p0 p1 p2 p3 p4 p5 p6 p7 p8 p9 p10 p11 p12 p13 r : Prop} {a b : Addr} (h : p0 ∧ p1 ∧ p2 ∧ p3 ∧ p4 ∧ p5 ∧ p6 ∧ p7 ∧ p8 ∧ p9 ∧ p10 ∧ p11 ∧ p12 ∧ p13 ∧ @LT.lt Nat _ a b ∧ r := by assumption) : @Ne Nat a b := Nat.ne_of_lt (cj14 h)
theorem nr14 {p0 p1 p2 p3 p4 p5 p6 p7 p8 p9 p10 p11 p12 p13 r : Prop} {a b : Addr} (h : p0 ∧ p1 ∧ p2 ∧ p3 ∧ p4 ∧ p5 ∧ p6 ∧ p7 ∧ p8 ∧ p9 ∧ p10 ∧ p11 ∧ p12 ∧ p13 ∧ @LT.lt Nat _ b a ∧ r := by assumption) : @Ne Nat a b := Nat.ne_of_gt (cj14 h)
theorem nl15 {p0 p1 p2 p3 p4 p5 p6 p7 p8 p9 p10 p11 p12 p13 p14 r : Prop} {a b : Addr} (h : p0 ∧ p1 ∧ p2 ∧ p3 ∧ p4 ∧ p5 ∧ p6 ∧ p7 ∧ p8 ∧ p9 ∧ p10 ∧ p11 ∧ p12 ∧ p13 ∧ p14 ∧ @LT.lt Nat _ a b ∧ r := by assumption) : @Ne Nat a b := Nat.ne_of_lt (cj15 h)
theorem nr15 {p0 p1 p2 p3 p4 p5 p6 p7 p8 p9 p10 p11 p12 p13 p14 r : Prop} {a b : Addr} (h : p0 ∧ p1 ∧ p2 ∧ p3 ∧ p4 ∧ p5 ∧ p6 ∧ p7 ∧ p8 ∧ p9 ∧ p10 ∧ p11 ∧ p12 ∧ p13 ∧ p14 ∧ @LT.lt Nat _ b a ∧ r := by assumption) : @Ne Nat a b := Nat.ne_of_gt (cj15 h)
theorem nl16 {p0 p1 p2 p3 p4 p5 p6 p7 p8 p9 p10 p11 p12 p13 p14 p15 r : Prop} {a b : Addr} (h : p0 ∧ p1 ∧ p2 ∧ p3 ∧ p4 ∧ p5 ∧ p6 ∧ p7 ∧ p8 ∧ p9 ∧ p10 ∧ p11 ∧ p12 ∧ p13 ∧ p14 ∧ p15 ∧ @LT.lt Nat _ a b ∧ r := by assumption) : @Ne Nat a b := Nat.ne_of_lt (cj16 h)
theorem nr16 {p0 p1 p2 p3 p4 p5 p6 p7 p8 p9 p10 p11 p12 p13 p14 p15 r : Prop} {a b : Addr} (h : p0 ∧ p1 ∧ p2 ∧ p3 ∧ p4 ∧ p5 ∧ p6 ∧ p7 ∧ p8 ∧ p9 ∧ p10 ∧ p11 ∧ p12 ∧ p13 ∧ p14 ∧ p15 ∧ @LT.lt Nat _ b a ∧ r := by assumption) : @Ne Nat a b := Nat.ne_of_gt (cj16 h)
theorem nl17 {p0 p1 p2 p3 p4 p5 p6 p7 p8 p9 p10 p11 p12 p13 p14 p15 p16 r : Prop} {a b : Addr} (h : p0 ∧ p1 ∧ p2 ∧ p3 ∧ p4 ∧ p5 ∧ p6 ∧ p7 ∧ p8 ∧ p9 ∧ p10 ∧ p11 ∧ p12 ∧ p13 ∧ p14 ∧ p15 ∧ p16 ∧ @LT.lt Nat _ a b ∧ r := by assumption) : @Ne Nat a b := Nat.ne_of_lt (cj17 h)
theorem nr17 {p0 p1 p2 p3 p4 p5 p6 p7 p8 p9 p10 p11 p12 p13 p14 p15 p16 r : Prop} {a b : Addr} (h : p0 ∧ p1 ∧ p2 ∧ p3 ∧ p4 ∧ p5 ∧ p6 ∧ p7 ∧ p8 ∧ p9 ∧ p10 ∧ p11 ∧ p12 ∧ p13 ∧ p14 ∧ p15 ∧ p16 ∧ @LT.lt Nat _ b a ∧ r := by assumption) : @Ne Nat a b := Nat.ne_of_gt (cj17 h)
theorem nl18 {p0 p1 p2 p3 p4 p5 p6 p7 p8 p9 p10 p11 p12 p13 p14 p15 p16 p17 r : Prop} {a b : Addr} (h : p0 ∧ p1 ∧ p2 ∧ p3 ∧ p4 ∧ p5 ∧ p6 ∧ p7 ∧ p8 ∧ p9 ∧ p10 ∧ p11 ∧ p12 ∧ p13 ∧ p14 ∧ p15 ∧ p16 ∧ p17 ∧ @LT.lt Nat _ a b ∧ r := by assumption) : @Ne Nat a b := Nat.ne_of_lt (cj18 h)
theorem nr18 {p0 p1 p2 p3 p4 p5 p6 p7 p8 p9 p10 p11 p12 p13 p14 p15 p16 p17 r : Prop} {a b : Addr} (h : p0 ∧ p1 ∧ p2 ∧ p3 ∧ p4 ∧ p5 ∧ p6 ∧ p7 ∧ p8 ∧ p9 ∧ p10 ∧ p11 ∧ p12 ∧ p13 ∧ p14 ∧ p15 ∧ p16 ∧ p17 ∧ @LT.lt Nat _ b a ∧ r := by assumption) : @Ne Nat a b := Nat.ne_of_gt (cj18 h)
theorem nl19 {p0 p1 p2 p3 p4 p5 p6 p7 p8 p9 p10 p11 p12 p13 p14 p15 p16 p17 p18 r : Prop} {a b : Addr} (h : p0 ∧ p1 ∧ p2 ∧ p3 ∧ p4 ∧ p5 ∧ p6 ∧ p7 ∧ p8 ∧ p9 ∧ p10 ∧ p11 ∧ p12 ∧ p13 ∧ p14 ∧ p15 ∧ p16 ∧ p17 ∧ p18 ∧ @LT.lt Nat _ a b ∧ r := by assumption) : @Ne Nat a b := Nat.ne_of_lt (cj19 h)
theorem nr19 {p0 p1 p2 p3 p4 p5 p6 p7 p8 p9 p10 p11 p12 p13 p14 p15 p16 p17 p18 r : Prop} {a b : Addr} (h : p0 ∧ p1 ∧ p2 ∧ p3 ∧ p4 ∧ p5 ∧ p6 ∧ p7 ∧ p8 ∧ p9 ∧ p10 ∧ p11 ∧ p12 ∧ p13 ∧ p14 ∧ p15 ∧ p16 ∧ p17 ∧ p18 ∧ @LT.lt Nat _ b a ∧ r := by assumption) : @Ne Nat a b := Nat.ne_of_gt (cj19 h)
theorem nl20 {p0 p1 p2 p3 p4 p5 p6 p7 p8 p9 p10 p11 p12 p13 p14 p15 p16 p17 p18 p19 r : Prop} {a b : Addr} (h : p0 ∧ p1 ∧ p2 ∧ p3 ∧ p4 ∧ p5 ∧ p6 ∧ p7 ∧ p8 ∧ p9 ∧ p10 ∧ p11 ∧ p12 ∧ p13 ∧ p14 ∧ p15 ∧ p16 ∧ p17 ∧ p18 ∧ p19 ∧ @LT.lt Nat _ a b ∧ r := by assumption) : @Ne Nat a b := Nat.ne_of_lt (cj20 h)
theorem nr20 {p0 p1 p2 p3 p4 p5 p6 p7 p8 p9 p10 p11 p12 p13 p14 p15 p16 p17 p18 p19 r : Prop} {a b : Addr} (h : p0 ∧ p1 ∧ p2 ∧ p3 ∧ p4 ∧ p5 ∧ p6 ∧ p7 ∧ p8 ∧ p9 ∧ p10 ∧ p11 ∧ p12 ∧ p13 ∧ p14 ∧ p15 ∧ p16 ∧ p17 ∧ p18 ∧ p19 ∧ @LT.lt Nat _ b a ∧ r := by assumption) : @Ne Nat a b := Nat.ne_of_gt (cj20 h)
theorem nl21 {p0 p1 p2 p3 p4 p5 p6 p7 p8 p9 p10 p11 p12 p13 p14 p15 p16 p17 p18 p19 p20 r : Prop} {a b : Addr} (h : p0 ∧ p1 ∧ p2 ∧ p3 ∧ p4 ∧ p5 ∧ p6 ∧ p7 ∧ p8 ∧ p9 ∧ p10 ∧ p11 ∧ p12 ∧ p13 ∧ p14 ∧ p15 ∧ p16 ∧ p17 ∧ p18 ∧ p19 ∧ p20 ∧ @LT.lt Nat _ a b ∧ r := by assumption) : @Ne Nat a b := Nat.ne_of_lt (cj21 h)
theorem nr21 {p0 p1 p2 p3 p4 p5 p6 p7 p8 p9 p10 p11 p12 p13 p14 p15 p16 p17 p18 p19 p20 r : Prop} {a b : Addr} (h : p0 ∧ p1 ∧ p2 ∧ p3 ∧ p4 ∧ p5 ∧ p6 ∧ p7 ∧ p8 ∧ p9 ∧ p10 ∧ p11 ∧ p12 ∧ p13 ∧ p14 ∧ p15 ∧ p16 ∧ p17 ∧ p18 ∧ p19 ∧ p20 ∧ @LT.lt Nat _ b a ∧ r := by assumption) : @Ne Nat a b := Nat.ne_of_gt (cj21 h)
theorem nl22 {p0 p1 p2 p3 p4 p5 p6 p7 p8 p9 p10 p11 p12 p13 p14 p15 p16 p17 p18 p19 p20 p21 r : Prop} {a b : Addr} (h : p0 ∧ p1 ∧ p2 ∧ p3 ∧ p4 ∧ p5 ∧ p6 ∧ p7 ∧ p8 ∧ p9 ∧ p10 ∧ p11 ∧ p12 ∧ p13 ∧ p14 ∧ p15 ∧ p16 ∧ p17 ∧ p18 ∧ p19 ∧ p20 ∧ p21 ∧ @LT.lt Nat _ a b ∧ r := by assumption) : @Ne Nat a b := Nat.ne_of_lt (cj22 h)
theorem nr22 {p0 p1 p2 p3 p4 p5 p6 p7 p8 p9 p10 p11 p12 p13 p14 p15 p16 p17 p18 p19 p20 p21 r : Prop} {a b : Addr} (h : p0 ∧ p1 ∧ p2 ∧ p3 ∧ p4 ∧ p5 ∧ p6 ∧ p7 ∧ p8 ∧ p9 ∧ p10 ∧ p11 ∧ p12 ∧ p13 ∧ p14 ∧ p15 ∧ p16 ∧ p17 ∧ p18 ∧ p19 ∧ p20 ∧ p21 ∧ @LT.lt Nat _ b a ∧ r := by assumption) : @Ne Nat a b := Nat.ne_of_gt (cj22 h)
theorem nl23 {p0 p1 p2 p3 p4 p5 p6 p7 p8 p9 p10 p11 p12 p13 p14 p15 p16 p17 p18 p19 p20 p21 p22 r : Prop} {a b : Addr} (h : p0 ∧ p1 ∧ p2 ∧ p3 ∧ p4 ∧ p5 ∧ p6 ∧ p7 ∧ p8 ∧ p9 ∧ p10 ∧ p11 ∧ p12 ∧ p13 ∧ p14 ∧ p15 ∧ p16 ∧ p17 ∧ p18 ∧ p19 ∧ p20 ∧ p21 ∧ p22 ∧ @LT.lt Nat _ a b ∧ r := by assumption) : @Ne Nat a b := Nat.ne_of_lt (cj23 h)
theorem nr23 {p0 p1 p2 p3 p4 p5 p6 p7 p8 p9 p10 p11 p12 p13 p14 p15 p16 p17 p18 p19 p20 p21 p22 r : Prop} {a b : Addr} (h : p0 ∧ p1 ∧ p2 ∧ p3 ∧ p4 ∧ p5 ∧ p6 ∧ p7 ∧ p8 ∧ p9 ∧ p10 ∧ p11 ∧ p12 ∧ p13 ∧ p14 ∧ p15 ∧ p16 ∧ p17 ∧ p18 ∧ p19 ∧ p20 ∧ p21 ∧ p22 ∧ @LT.lt Nat _ b a ∧ r := by assumption) : @Ne Nat a b := Nat.ne_of_gt (cj23 h)
theorem neq_lt {a b : Addr} (h : @LT.lt Nat _ a b) : a ≠ b := Nat.ne_of_lt h
theorem neq_gt {a b : Addr} (h : @LT.lt Nat _ b a) : a ≠ b := Nat.ne_of_gt h
/-- what a turn of a comprehension leaves: the ledger but for the block's own three -/
inductive Kept (I C D : Addr) : List (Addr × Obj) → List (Addr × Obj) → Prop
  | done {l : List (Addr × Obj)} (h : LCg.Off3 I C D l) : Kept I C D l l
  | skipI {o : Obj} {l out : List (Addr × Obj)} (h : Kept I C D l out) : Kept I C D ((I, o) :: l) out
  | skipC {o : Obj} {l out : List (Addr × Obj)} (h : Kept I C D l out) : Kept I C D ((C, o) :: l) out
  | skipD {o : Obj} {l out : List (Addr × Obj)} (h : Kept I C D l out) : Kept I C D ((D, o) :: l) out
  | take {a : Addr} {o : Obj} {l out : List (Addr × Obj)} (h1 : @Ne Nat a I) (h2 : @Ne Nat a C) (h3 : @Ne Nat a D) (h : Kept I C D l out) : Kept I C D ((a, o) :: l) ((a, o) :: out)
theorem Kept.takeF {I C D a : Addr} {o : Obj} {l out : List (Addr × Obj)} (u : @Ne Nat a I ∧ @Ne Nat a C ∧ @Ne Nat a D) (h : Kept I C D l out) : Kept I C D ((a, o) :: l) ((a, o) :: out) := .take u.1 u.2.1 u.2.2 h
theorem Kept.take3 {I C D a : Addr} {o : Obj} {l out : List (Addr × Obj)} (u : Abv3 I C D a) (h : Kept I C D l out) : Kept I C D ((a, o) :: l) ((a, o) :: out) := .take (Nat.ne_of_gt u.1) (Nat.ne_of_gt u.2.1) (Nat.ne_of_gt u.2.2) h
theorem Kept.sub {I C D : Addr} {l out : List (Addr × Obj)} (h : Kept I C D l out) : ∀ p ∈ out, p ∈ l := by
  induction h with
  | done _ => exact fun _ h => h
  | skipI _ ih => exact fun p hp => List.mem_cons_of_mem _ (ih p hp)
  | skipC _ ih => exact fun p hp => List.mem_cons_of_mem _ (ih p hp)
  | skipD _ ih => exact fun p hp => List.mem_cons_of_mem _ (ih p hp)
  | take _ _ _ _ ih =>
    intro p hp
    rcases List.mem_cons.mp hp with rfl | hp
    · exact List.mem_cons_self
    · exact List.mem_cons_of_mem _ (ih p hp)
theorem Kept.off {I C D : Addr} {l out : List (Addr × Obj)} (h : Kept I C D l out) : LCg.Off3 I C D out := by
  induction h with
  | done h => exact h
  | skipI _ ih => exact ih
  | skipC _ ih => exact ih
  | skipD _ ih => exact ih
  | take h1 h2 h3 _ ih => exact ⟨⟨h1, h2, h3⟩, ih⟩
theorem kept_end {h₀ : Heap} {L I C D : Addr} {m : PySem.Str → Option Value} {s₁ : Shared} {oI oC oD : Obj} {S : List (Addr × Obj) → Prop} {rest : Value → List (Addr × Obj) → Prop} {y : Value} {h' : Heap} {tk : Nat} {all out : List (Addr × Obj)}
    (F : Fr h₀ L h' m) (N : News h₀ L h' all) (k : Kept I C D all out) (hI : (I, oI) ∈ all) (hC : (C, oC) ∈ all) (hD : (D, oD) ∈ all) (hS : S out) (r : rest y out) :
    LCg.CompEnd h₀ L m s₁ I oI C oC D oD S rest y { s₁ with heap := h', toks := tk } :=
  LCg.CompEnd.intro F N out (fun p hp => by
    rcases List.mem_cons.mp hp with rfl | hp
    · exact hI
    rcases List.mem_cons.mp hp with rfl | hp
    · exact hC
    rcases List.mem_cons.mp hp with rfl | hp
    · exact hD
    exact k.sub p hp) k.off hS r
theorem c_item {prog : Program} {w : World} {A : Around} {E : Value → Shared → Prop} {s : Shared} {h₀ : Heap} {L l : Addr} {news : List (Addr × Obj)} {value slice : PySem.Expr} {xs : List Value} {n : Nat} {k : Int} {u : Tok} {v : Value} {Q : Value → Shared → Prop}
    (N : News h₀ L s.heap news) (hm : (l, listOf xs.toArray n) ∈ news) (h0 : 0 ≤ k) (hhi : k < 2 ^ 63) (hx : xs[k.toNat]? = some v) (h : Q v s)
    (hs : subscripted slice false (.ref l) (.int k u) = operate [.ref l, .int k u] (getItem (.ref l) (.int k u)) := by with_unfolding_all rfl) :
    wpAny (model prog w) A (subscriptTail value slice (.ref l) (.int k u)) Q E s :=
  have hL : s.heap.IsList l xs.toArray := N.isList hm
  tail_any hL.typeIs slot_list_getitem.lookup (wpAny_getItem_list hL h0 hhi (by simpa using hx) h) hs
/-- the end of a call that hands back a Decimal at hand, which stands for q -/
def RetOld (w : World) (h₀ : Heap) (L : Addr) (m : PySem.Str → Option Value) (news : List (Addr × Obj)) (s : Shared) (Q : Value → Shared → Prop) (q : Rat) (n : Nat) : Prop :=
  ∀ x dx k1 k2 k3 k4 q' h' tk', Fr h₀ L h' m → News h₀ L h' ((x, instObj 155 dx) :: (dx, decObj w q' k1 k2 k3 k4) :: news) → DecQ q' n → q' = q → Q (.ref x) { s with heap := h', toks := tk' }
inductive KeptI (I : Addr) : List (Addr × Obj) → List (Addr × Obj) → Prop
  | done {l : List (Addr × Obj)} (h : ∀ p ∈ l, p.1 < I) : KeptI I l l
  | skip {o : Obj} {l out : List (Addr × Obj)} (h : KeptI I l out) : KeptI I ((I, o) :: l) out
  | take {a : Addr} {o : Obj} {l out : List (Addr × Obj)} (h1 : @Ne Nat a I) (h : KeptI I l out) : KeptI I ((a, o) :: l) ((a, o) :: out)
theorem KeptI.sub {I : Addr} {l out : List (Addr × Obj)} (h : KeptI I l out) : ∀ p ∈ out, p ∈ l := by
  induction h with
  | done _ => exact fun _ h => h
  | skip _ ih => exact fun p hp => List.mem_cons_of_mem _ (ih p hp)
  | take _ _ ih =>
    intro p hp
    rcases List.mem_cons.mp hp with rfl | hp
    · exact List.mem_cons_self
    · exact List.mem_cons_of_mem _ (ih p hp)
theorem KeptI.off {I : Addr} {l out : List (Addr × Obj)} (h : KeptI I l out) : ∀ p ∈ out, p.1 ≠ I := by
  induction h with
  | done h => exact fun p hp => Nat.ne_of_lt (h p hp)
  | skip _ ih => exact ih
  | take h1 _ ih =>
    intro p hp
    rcases List.mem_cons.mp hp with rfl | hp
    · exact h1
    · exact ih p hp
theorem unr_end {h₀ : Heap} {L I : Addr} {it : Obj} {lp : Addr × Obj} {R : (PySem.Str → Option Value) → List (Addr × Obj) → Prop} {s₁ : Shared} {h' : Heap} {tk : Nat} {m' : PySem.Str → Option Value} {all out : List (Addr × Obj)}
    (F : Fr h₀ L h' m') (N : News h₀ L h' all) (k : KeptI I all out) (hI : (I, it) ∈ all) (hm : lp ∈ out) (r : R m' out) : UnrEnd h₀ L s₁ I it (fun m' n' => lp ∈ n' ∧ R m' n') { s₁ with heap := h', toks := tk } :=
  UnrEnd.intro F N out (fun p hp => by
    rcases List.mem_cons.mp hp with rfl | hp
    · exact hI
    · exact k.sub p hp) k.off ⟨hm, r⟩
theorem whlif_cases {b : Bool} {T F : Prop} (t : b = true → T) (f : b = false → F) : WhlIf b T F := by
  cases b with
  | true => exact WhlIf.yes rfl (t rfl)
  | false => exact WhlIf.no rfl (f rfl)
theorem src_list {h₀ : Heap} {ax : Addr} {its : Array Value} {n : Nat} {out : List (Addr × Obj)} (hm : (ax, listOf its n) ∈ out) : LCg.SrcAt h₀ ax its out := Or.inr ⟨_, hm, rfl, _, rfl⟩
theorem mem_here {a : Addr} {o o' : Obj} {l : List (Addr × Obj)} (h : o' = o) : (a, o) ∈ (a, o') :: l := h ▸ List.mem_cons_self
theorem fresh_sub {news led l : List (Addr × Obj)} (h : Fresh led l) (hs : ∀ p ∈ news, p ∈ led) : Fresh news l := fun q hq => allLt_of fun p hp => tb_ltOf (h q hq) p (hs p hp)
/-- the dict of a Lookup -/
abbrev shelfObj (w : World) (tb tr : Addr) (k1 k2 : Tok) : Obj :=
  dictOf [{ hash := PyData.keyHash w.params (PySem.Str.ofString "table"), key := .str (PySem.Str.ofString "table") k1, val := .ref tb },
    { hash := PyData.keyHash w.params (PySem.Str.ofString "trailer"), key := .str (PySem.Str.ofString "trailer") k2, val := .ref tr }] 2
/-- the dict of a Stream -/
abbrev streamObj (w : World) (hd : Addr) (oc : Value) (k1 k2 : Tok) : Obj :=
  dictOf [{ hash := PyData.keyHash w.params (PySem.Str.ofString "head"), key := .str (PySem.Str.ofString "head") k1, val := .ref hd },
    { hash := PyData.keyHash w.params (PySem.Str.ofString "octets"), key := .str (PySem.Str.ofString "octets") k2, val := oc }] 2
/-- a dict of the call's own -/
structure DictIs (w : World) (d : Addr) (o : Obj) (kvs : List (PySem.Str × Value)) : Prop where
  is : o.IsDictOf (PySem.strKind PySem.Challenge.rw_qz0079_01.row.prog w) kvs
  lo : (d == sysModules) = false
theorem DictIs.cls {w : World} {d : Addr} {o : Obj} {kvs : List (PySem.Str × Value)} (h : DictIs w d o kvs) : o.cls = .type "dict" := by
  obtain ⟨_, _, hx, _⟩ := h.is
  exact hx.1
theorem bnd_bits {a : Int} {n : Nat} (h : Bnd a n) (hn : n ≤ 100000) : Builtin.Int.intBits a ≤ 2 ^ 20 := by
  rw [bnd_abs] at h
  refine intBits_le_iff.mpr ?_
  have h1 : 10 ^ n ≤ 2 ^ (4 * n) := by rw [Nat.pow_mul]; exact Nat.pow_le_pow_left (by decide) n
  have h2 : 2 ^ (4 * n) < 2 ^ (4 * n + 1) := Nat.pow_lt_pow_right (by decide) (by omega)
  have h3 : 2 ^ (4 * n + 1) ≤ 2 ^ (2 ^ 20) := Nat.pow_le_pow_right (by decide) (by omega)
  exact Nat.lt_of_le_of_lt h (Nat.lt_of_le_of_lt h1 (Nat.lt_of_lt_of_le h2 h3))
theorem mulOk_bnd {a b : Int} {n k : Nat} (ha : Bnd a n) (hb : Bnd b k) (hn : n ≤ 100000) (hk : k ≤ 100000) : IntMulOk a b := IntMulOk.of_bits (bnd_bits ha hn) (bnd_bits hb hk)
theorem news_pick1 {h₀ h : Heap} {L x : Addr} {o : Obj} {led news : List (Addr × Obj)} (N : News h₀ L h led) (h1 : (x, o) ∈ led) (hs : ∀ p ∈ news, p ∈ led) : News h₀ L h ((x, o) :: news) := fun p hp => by
  rcases List.mem_cons.mp hp with rfl | hp
  · exact N _ h1
  · exact N _ (hs p hp)
theorem news_pick2 {h₀ h : Heap} {L x y : Addr} {o o2 : Obj} {led news : List (Addr × Obj)} (N : News h₀ L h led) (h1 : (x, o) ∈ led) (h2 : (y, o2) ∈ led) (hs : ∀ p ∈ news, p ∈ led) : News h₀ L h ((x, o) :: (y, o2) :: news) := fun p hp => by
  rcases List.mem_cons.mp hp with rfl | hp
  · exact N _ h1
  · exact news_pick1 N h2 hs p hp
end PartCbase
section PartC1
section
variable {w : World} {mean : ExcName → Option Value} {mg mb : PySem.Str → Option Value} {dp un : Nat} {gd : Option (List Code)} {cn : PySem.Str} {cs : Scope} {a₀ : Addr} {ccd : Value} {cl : List (PySem.Str × Addr)} {outer : List Env}
  {A₀ : Around} {base h₀ : Heap} {L : Addr} {m : PySem.Str → Option Value} {s : Shared} {news : List (Addr × Obj)} {Q E : Value → Shared → Prop}

theorem c_new {top pl : Int} {t1 t2 : Tok} {n : Nat}
    (B : Below A₀ base outer h₀) (F : Fr h₀ L s.heap m) (X : (Mine.hd0.heap_1 w.params).In h₀) (N : News h₀ L s.heap news) (T : Top VW LS mean mg mb h₀) (hk : cs.kind = .function) (hd : dp + 5 < recursionLimit) (hu : un + 50 < cLine)
    (hb : Bnd top n) (h0 : 0 ≤ pl) (hp : pl ≤ n)
    (ret : RetDec w h₀ L m news s Q ((top : Rat) / (ten pl : Rat)) n) :
    wpAny (model PySem.Challenge.rw_qz0079_01.row.prog w) (ktrTop dp un gd cn cs L a₀ ccd cl outer) (call (.ref 155) [.int top t1, .int pl t2]) Q E s := by
  revert X; k_fill; intro X
  w_on
  k_dflt (refine' call_cls ?k1 ?k2 ?k3 ?k4 ?k5 ?k6 ?_; (case k1 => k_asm); (case k2 => k_asm); (case k3 => k_asm); (case k4 => k_is); (case k5 => k_is); (case k6 => k_is); k_whole; intro x' d' h' F' N' l1 l2; have l1' := l1; have l2' := l2; (try k_lt l1); (try k_lt2 l2); (try k_sweep))
  k_dflt ktr_enter
  k_steps
  rename Fr h₀ L _ m => kF
  rename News h₀ L _ _ => kN
  obtain ⟨hq, e1, e2⟩ := made h0 (by assumption) (by assumption) (by assumption) (by assumption) hb hp
  rw [← e1, ← e2] at kN
  exact ret _ _ _ _ _ _ _ _ kF kN (allLt_of l1') l2' hq
theorem c_new0 {top : Int} {t1 t2 : Tok} {n : Nat}
    (B : Below A₀ base outer h₀) (F : Fr h₀ L s.heap m) (X : (Mine.hd0.heap_1 w.params).In h₀) (N : News h₀ L s.heap news) (T : Top VW LS mean mg mb h₀) (hk : cs.kind = .function) (hd : dp + 5 < recursionLimit) (hu : un + 50 < cLine)
    (hb : Bnd top n) (ret : RetDec w h₀ L m news s Q (top : Rat) n) :
    wpAny (model PySem.Challenge.rw_qz0079_01.row.prog w) (ktrTop dp un gd cn cs L a₀ ccd cl outer) (call (.ref 155) [.int top t1, .int 0 t2]) Q E s := by
  refine c_new B F X N T hk hd hu hb (Int.le_refl _) (by omega) ?_
  rw [div_ten0]
  exact ret
end
end PartC1
section PartC2
theorem lines_C2_1 : True := by
  k_with_none
  k_with "c mem" =>
    first | ((with_reducible refine' mem_here ?z1zh9); (case z1zh9 => exact rfl)) | ((with_reducible refine' mem_nth 1 ?z1zh9); (case z1zh9 => exact rfl)) | ((with_reducible refine' mem_nth 2 ?z1zh9); (case z1zh9 => exact rfl)) | ((with_reducible refine' mem_nth 3 ?z1zh9); (case z1zh9 => exact rfl)) | ((with_reducible refine' mem_nth 4 ?z1zh9); (case z1zh9 => exact rfl)) | ((with_reducible refine' mem_nth 5 ?z1zh9); (case z1zh9 => exact rfl)) | ((with_reducible refine' mem_nth 6 ?z1zh9); (case z1zh9 => exact rfl)) | ((with_reducible refine' mem_nth 7 ?z1zh9); (case z1zh9 => exact rfl)) | ((with_reducible refine' mem_nth 8 ?z1zh9); (case z1zh9 => exact rfl)) | ((with_reducible refine' mem_nth 9 ?z1zh9); (case z1zh9 => exact rfl)) | ((with_reducible refine' mem_skip ?_); walk_at "c mem") | (with_reducible exact List.mem_append_left _ (by with_reducible assumption)) | ktr_member | ((with_reducible refine' List.mem_cons_of_mem _ ?_); walk_at "c mem") | ((with_reducible refine' List.mem_append_right _ ?_); walk_at "c mem")
  k_with "c room" =>
    with_reducible first | assumption | exact room1 (by assumption) rfl | exact room2 (by assumption) rfl | exact room3 (by assumption) rfl | exact room4 (by assumption) rfl
  k_with "c le" =>
    with_reducible first | assumption | exact Nat.le_trans (by assumption) (by decide)
  k_with "c lt1" =>
    with_reducible first | assumption | exact cj0 | exact cj1 | exact cj2 | exact cj3 | exact cj4 | exact cj5 | exact cj6 | exact cj7 | exact cj8 | exact cj9 | exact cj10 | exact cj11 | exact cj12 | exact cj13 | exact cj14 | exact cj15 | exact cj16 | exact cj17 | exact cj18 | exact cj19 | exact cj20 | exact cj21 | exact cj22 | exact cj23 | exact And.right (by with_reducible assumption) | exact And.right (And.right (by with_reducible assumption)) | exact And.right (And.right (And.right (by with_reducible assumption))) | exact And.right (And.right (And.right (And.right (by with_reducible assumption))))
  k_with "c lt2" =>
    ((with_reducible refine' Nat.lt_trans ?z5za9 ?z5zb9); (case z5zb9 => with_reducible assumption); (case z5za9 => walk_at "c lt1"))
  k_with "c lt" =>
    first | walk_at "c lt1" | walk_at "c lt2"
  k_with "c up3" =>
    with_reducible first | exact abv3 (by assumption) | exact abv3_1 (by assumption) | exact abv3_2 (by assumption) | exact abv3_3 (by assumption) | exact abv3_4 (by assumption) | (refine' Abv3.tr ?z7za9 ?z7zb9; (case z7za9 => assumption); (case z7zb9 => walk_at "c up3"))
  k_with "c ne" =>
    first | with_reducible (first | assumption | exact And.left (by assumption) | exact Ne.symm (And.left (by assumption)) | exact And.left (And.right (by assumption)) | exact Ne.symm (And.left (And.right (by assumption))) | exact And.right (And.right (by assumption)) | exact Ne.symm (And.right (And.right (by assumption))) | exact neq_lt (by assumption) | exact neq_gt (by assumption) | exact nl0 | exact nr0 | exact nl1 | exact nr1 | exact nl2 | exact nr2 | exact nl3 | exact nr3 | exact nl4 | exact nr4 | exact nl5 | exact nr5 | exact nl6 | exact nr6 | exact nl7 | exact nr7 | exact nl8 | exact nr8 | exact nl9 | exact nr9 | exact nl10 | exact nr10 | exact nl11 | exact nr11 | exact nl12 | exact nr12 | exact nl13 | exact nr13 | exact nl14 | exact nr14 | exact nl15 | exact nr15 | exact nl16 | exact nr16 | exact nl17 | exact nr17 | exact nl18 | exact nr18 | exact nl19 | exact nr19 | exact nl20 | exact nr20 | exact nl21 | exact nr21 | exact nl22 | exact nr22 | exact nl23 | exact nr23) | ((with_reducible refine' neq_lt ?z8zz9); (case z8zz9 => walk_at "c lt2")) | ((with_reducible refine' neq_gt ?z8zz9); (case z8zz9 => walk_at "c lt2")) | ((try dsimp only); omega)
  k_with "c dp" =>
    ((try simp only [depth_under_make, depth_under_kw, depth_in1, depth_deeper, depth_caller]); (try dsimp only [ktrTop]); first | walk_at "c room" | omega | decide)
  k_with "c un" =>
    ((try simp only [units_make, units_in1, units_deeper, Around.mark_units, units_caller]); (try dsimp only [ktrTop]); first | walk_at "c room" | omega | decide)
  k_with "c sub" =>
    first | (refine List.forall_mem_cons.mpr ⟨?z11za, ?z11zb⟩; (case z11za => walk_at "c mem"); (case z11zb => walk_at "c sub")) | exact List.forall_mem_nil _ | (intro p9 h9; (repeat (first | exact h9 | refine List.mem_cons_of_mem _ ?_ | refine List.mem_append_left _ ?_)))
  k_with "c bnd" =>
    with_reducible (first | assumption | exact Bnd.pow _ | (refine' Bnd.fdiv ?z12za; (case z12za => walk_at "c bnd")) | (exact Bnd.mul (by walk_at "c bnd") (by walk_at "c bnd")) | (exact Bnd.add1 (by walk_at "c bnd") (by walk_at "c bnd")) | (exact Bnd.sub1 (by walk_at "c bnd") (by walk_at "c bnd")) | (exact Bnd.add (by walk_at "c bnd") (by walk_at "c bnd")) | (exact Bnd.sub (by walk_at "c bnd") (by walk_at "c bnd")))
  k_with "c ar" =>
    first | assumption | decide | omega | (split <;> omega)
  k_with "c mul" =>
    exact mulOk_bnd (by walk_at "c bnd") (by walk_at "c bnd") (by walk_at "c ar") (by walk_at "c ar")
  k_with "binaryOp Pow int int" =>
    ((with_reducible refine pow_int_small ?z15zkb1 ?z15zkb2 ?z15zkb3 ?_); (case z15zkb1 => walk_at "c ar"); (case z15zkb2 => walk_at "c ar"); (case z15zkb3 => decide))
  k_with "call ref" =>
    (k_here; (with_reducible show wpAny _ _ (call (Prod.fst _) (_ ++ _)) _ _ _); dsimp only [List.nil_append, List.cons_append])
  k_with "subscriptTail" =>
    (k_here; (with_reducible show wpAny _ _ (subscriptTail _ _ (Value.ref _) (Value.int _ _)) _ _ _); k_dflt (first
    | (refine' item_tupleT ?z17zt ?z17za ?z17zb ?z17zc ?z17zd ?_; (case z17zt => exact News.isTup (by k_asm) (by k_mem)); (case z17za => decide); (case z17zb => decide); (case z17zc => exact rfl); (case z17zd => exact rfl); k_whole)
    | (refine' c_item ?z17zN ?z17zm ?z17za ?z17zb ?z17zc ?_ ?z17zz; (case z17zN => k_asm); (case z17zm => k_mem); (case z17za => decide); (case z17zb => decide); (case z17zc => exact rfl); (case z17zz => with_unfolding_all rfl); k_whole)))
  k_with "subscriptTail Name Constant ref int" =>
    (k_here; (with_reducible show wpAny _ _ (subscriptTail _ _ (Value.ref _) (Value.int _ _)) _ _ _); k_dflt (first
    | (refine' item_tupleT ?z18zt ?z18za ?z18zb ?z18zc ?z18zd ?_; (case z18zt => exact News.isTup (by k_asm) (by k_mem)); (case z18za => decide); (case z18zb => decide); (case z18zc => exact rfl); (case z18zd => exact rfl); k_whole)
    | (refine' c_item ?z18zN ?z18zm ?z18za ?z18zb ?z18zc ?_ ?z18zz; (case z18zN => k_asm); (case z18zm => k_mem); (case z18za => decide); (case z18zb => decide); (case z18zc => exact rfl); (case z18zz => with_unfolding_all rfl); k_whole)))
  trivial
section
variable {w : World} {mean : ExcName → Option Value} {mg mb : PySem.Str → Option Value} {dp un : Nat} {gd : Option (List Code)} {cn : PySem.Str} {cs : Scope} {a₀ : Addr} {ccd : Value} {cl : List (PySem.Str × Addr)} {outer : List Env}
  {A₀ : Around} {base h₀ : Heap} {L : Addr} {m : PySem.Str → Option Value} {s : Shared} {news : List (Addr × Obj)} {Q E : Value → Shared → Prop}
theorem lines_C2_2 : True := by
  k_with "call ref" =>
    (k_here; (with_reducible show wpAny _ _ (call (Value.ref 155) [Value.int _ _, Value.int _ _]) _ _ _); k_dflt (refine' c_new ?z19zcB ?z19zcF ?z19zcX ?z19zcN ?z19zcT ?z19zcK ?z19zcD ?z19zcU ?z19zp0 ?z19zp1 ?z19zp2 ?_; (case z19zcB => k_asm); (case z19zcF => k_asm); (case z19zcX => k_asm); (case z19zcN => k_asm); (case z19zcT => k_asm); (case z19zcK => first | exact rfl | assumption); (case z19zcD => walk_at "c dp"); (case z19zcU => walk_at "c un"); (case z19zp0 => walk_at "c bnd"); (case z19zp1 => first | walk_at "c le" | decide | omega); (case z19zp2 => first | walk_at "c le" | decide | omega); intro x' d' q1' q2' q3' q4' h' tk' F' N' l1 l2 hq'; (try simp only [AllLt, and_true] at l1); (try k_lt2 l2); (try k_sweep); (try dsimp only); (try k_fold)))
  k_with "call ref" =>
    (k_here; (with_reducible show wpAny _ _ (call (Value.ref 155) [Value.int _ _, Value.int 0 _]) _ _ _); k_dflt (refine' c_new0 ?z20zcB ?z20zcF ?z20zcX ?z20zcN ?z20zcT ?z20zcK ?z20zcD ?z20zcU ?z20zp0 ?_; (case z20zcB => k_asm); (case z20zcF => k_asm); (case z20zcX => k_asm); (case z20zcN => k_asm); (case z20zcT => k_asm); (case z20zcK => first | exact rfl | assumption); (case z20zcD => walk_at "c dp"); (case z20zcU => walk_at "c un"); (case z20zp0 => walk_at "c bnd"); intro x' d' q1' q2' q3' q4' h' tk' F' N' l1 l2 hq'; (try simp only [AllLt, and_true] at l1); (try k_lt2 l2); (try k_sweep); (try dsimp only); (try k_fold)))
  trivial

theorem c_of_int {k : Int} {t1 : Tok} {n : Nat} (B : Below A₀ base outer h₀) (F : Fr h₀ L s.heap m) (X : (Mine.hd0.heap_1 w.params).In h₀) (N : News h₀ L s.heap news) (T : Top VW LS mean mg mb h₀) (hk : cs.kind = .function) (hd : dp + 10 < recursionLimit) (hu : un + 100 < cLine)
    (hb : Bnd k n)
    (ret : RetDec w h₀ L m news s Q (k : Rat) n) : wpAny (model PySem.Challenge.rw_qz0079_01.row.prog w) (ktrTop dp un gd cn cs L a₀ ccd cl outer) (call (.ref 187) [.int k t1]) Q E s := by
  revert X; k_fill; intro X
  w_on
  refine wpAny_call ?_
  k_dflt ktr_enter
  k_steps
  rename Fr h₀ L _ m => kF
  rename News h₀ L _ _ => kN
  refine ret _ _ _ _ _ _ _ _ kF (news_pick2 kN (by k_mem) (by k_mem) (by intro p9 h9; (repeat (first | exact h9 | refine List.mem_cons_of_mem _ ?_)))) (by first | tbn_find | exact allLt_of (by assumption)) (by assumption) (by assumption)

theorem c_of_dec {a da : Addr} {q : Rat} {k1 k2 k3 k4 : Tok} (B : Below A₀ base outer h₀) (F : Fr h₀ L s.heap m) (X : (Mine.hd0.heap_1 w.params).In h₀) (N : News h₀ L s.heap news) (T : Top VW LS mean mg mb h₀) (hk : cs.kind = .function) (hd : dp + 10 < recursionLimit) (hu : un + 100 < cLine)
    (ha : (a, instObj 155 da) ∈ news) (hda : (da, decObj w q k1 k2 k3 k4) ∈ news)
    (ret : ∀ h' tk', Fr h₀ L h' m → News h₀ L h' news → Q (.ref a) { s with heap := h', toks := tk' }) : wpAny (model PySem.Challenge.rw_qz0079_01.row.prog w) (ktrTop dp un gd cn cs L a₀ ccd cl outer) (call (.ref 187) [.ref a]) Q E s := by
  revert X; k_fill; intro X
  w_on
  refine wpAny_call ?_
  k_dflt ktr_enter
  k_steps
  exact ret _ _ (by assumption) (by assumption)
end
end PartC2
section PartC3
theorem lines_C3_1 : True := by
  k_with_none
  k_with "c mem" =>
    first | ((with_reducible refine' mem_here ?z21zh9); (case z21zh9 => exact rfl)) | ((with_reducible refine' mem_nth 1 ?z21zh9); (case z21zh9 => exact rfl)) | ((with_reducible refine' mem_nth 2 ?z21zh9); (case z21zh9 => exact rfl)) | ((with_reducible refine' mem_nth 3 ?z21zh9); (case z21zh9 => exact rfl)) | ((with_reducible refine' mem_nth 4 ?z21zh9); (case z21zh9 => exact rfl)) | ((with_reducible refine' mem_nth 5 ?z21zh9); (case z21zh9 => exact rfl)) | ((with_reducible refine' mem_nth 6 ?z21zh9); (case z21zh9 => exact rfl)) | ((with_reducible refine' mem_nth 7 ?z21zh9); (case z21zh9 => exact rfl)) | ((with_reducible refine' mem_nth 8 ?z21zh9); (case z21zh9 => exact rfl)) | ((with_reducible refine' mem_nth 9 ?z21zh9); (case z21zh9 => exact rfl)) | ((with_reducible refine' mem_skip ?_); walk_at "c mem") | (with_reducible exact List.mem_append_left _ (by with_reducible assumption)) | ktr_member | ((with_reducible refine' List.mem_cons_of_mem _ ?_); walk_at "c mem") | ((with_reducible refine' List.mem_append_right _ ?_); walk_at "c mem")
  k_with "c room" =>
    with_reducible first | assumption | exact room1 (by assumption) rfl | exact room2 (by assumption) rfl | exact room3 (by assumption) rfl | exact room4 (by assumption) rfl
  k_with "c le" =>
    with_reducible first | assumption | exact Nat.le_trans (by assumption) (by decide)
  k_with "c lt1" =>
    with_reducible first | assumption | exact cj0 | exact cj1 | exact cj2 | exact cj3 | exact cj4 | exact cj5 | exact cj6 | exact cj7 | exact cj8 | exact cj9 | exact cj10 | exact cj11 | exact cj12 | exact cj13 | exact cj14 | exact cj15 | exact cj16 | exact cj17 | exact cj18 | exact cj19 | exact cj20 | exact cj21 | exact cj22 | exact cj23 | exact And.right (by with_reducible assumption) | exact And.right (And.right (by with_reducible assumption)) | exact And.right (And.right (And.right (by with_reducible assumption))) | exact And.right (And.right (And.right (And.right (by with_reducible assumption))))
  k_with "c lt2" =>
    ((with_reducible refine' Nat.lt_trans ?z25za9 ?z25zb9); (case z25zb9 => with_reducible assumption); (case z25za9 => walk_at "c lt1"))
  k_with "c lt" =>
    first | walk_at "c lt1" | walk_at "c lt2"
  k_with "c up3" =>
    with_reducible first | exact abv3 (by assumption) | exact abv3_1 (by assumption) | exact abv3_2 (by assumption) | exact abv3_3 (by assumption) | exact abv3_4 (by assumption) | (refine' Abv3.tr ?z27za9 ?z27zb9; (case z27za9 => assumption); (case z27zb9 => walk_at "c up3"))
  k_with "c ne" =>
    first | with_reducible (first | assumption | exact And.left (by assumption) | exact Ne.symm (And.left (by assumption)) | exact And.left (And.right (by assumption)) | exact Ne.symm (And.left (And.right (by assumption))) | exact And.right (And.right (by assumption)) | exact Ne.symm (And.right (And.right (by assumption))) | exact neq_lt (by assumption) | exact neq_gt (by assumption) | exact nl0 | exact nr0 | exact nl1 | exact nr1 | exact nl2 | exact nr2 | exact nl3 | exact nr3 | exact nl4 | exact nr4 | exact nl5 | exact nr5 | exact nl6 | exact nr6 | exact nl7 | exact nr7 | exact nl8 | exact nr8 | exact nl9 | exact nr9 | exact nl10 | exact nr10 | exact nl11 | exact nr11 | exact nl12 | exact nr12 | exact nl13 | exact nr13 | exact nl14 | exact nr14 | exact nl15 | exact nr15 | exact nl16 | exact nr16 | exact nl17 | exact nr17 | exact nl18 | exact nr18 | exact nl19 | exact nr19 | exact nl20 | exact nr20 | exact nl21 | exact nr21 | exact nl22 | exact nr22 | exact nl23 | exact nr23) | ((with_reducible refine' neq_lt ?z28zz9); (case z28zz9 => walk_at "c lt2")) | ((with_reducible refine' neq_gt ?z28zz9); (case z28zz9 => walk_at "c lt2")) | ((try dsimp only); omega)
  k_with "c dp" =>
    ((try simp only [depth_under_make, depth_under_kw, depth_in1, depth_deeper, depth_caller]); (try dsimp only [ktrTop]); first | walk_at "c room" | omega | decide)
  k_with "c un" =>
    ((try simp only [units_make, units_in1, units_deeper, Around.mark_units, units_caller]); (try dsimp only [ktrTop]); first | walk_at "c room" | omega | decide)
  k_with "c sub" =>
    first | (refine List.forall_mem_cons.mpr ⟨?z31za, ?z31zb⟩; (case z31za => walk_at "c mem"); (case z31zb => walk_at "c sub")) | exact List.forall_mem_nil _ | (intro p9 h9; (repeat (first | exact h9 | refine List.mem_cons_of_mem _ ?_ | refine List.mem_append_left _ ?_)))
  k_with "c bnd" =>
    with_reducible (first | assumption | exact Bnd.pow _ | (refine' Bnd.fdiv ?z32za; (case z32za => walk_at "c bnd")) | (exact Bnd.mul (by walk_at "c bnd") (by walk_at "c bnd")) | (exact Bnd.add1 (by walk_at "c bnd") (by walk_at "c bnd")) | (exact Bnd.sub1 (by walk_at "c bnd") (by walk_at "c bnd")) | (exact Bnd.add (by walk_at "c bnd") (by walk_at "c bnd")) | (exact Bnd.sub (by walk_at "c bnd") (by walk_at "c bnd")))
  k_with "c ar" =>
    first | assumption | decide | omega | (split <;> omega)
  k_with "c mul" =>
    exact mulOk_bnd (by walk_at "c bnd") (by walk_at "c bnd") (by walk_at "c ar") (by walk_at "c ar")
  k_with "binaryOp Pow int int" =>
    ((with_reducible refine pow_int_small ?z35zkb1 ?z35zkb2 ?z35zkb3 ?_); (case z35zkb1 => walk_at "c ar"); (case z35zkb2 => walk_at "c ar"); (case z35zkb3 => decide))
  k_with "call ref" =>
    (k_here; (with_reducible show wpAny _ _ (call (Prod.fst _) (_ ++ _)) _ _ _); dsimp only [List.nil_append, List.cons_append])
  k_with "subscriptTail" =>
    (k_here; (with_reducible show wpAny _ _ (subscriptTail _ _ (Value.ref _) (Value.int _ _)) _ _ _); k_dflt (first
    | (refine' item_tupleT ?z37zt ?z37za ?z37zb ?z37zc ?z37zd ?_; (case z37zt => exact News.isTup (by k_asm) (by k_mem)); (case z37za => decide); (case z37zb => decide); (case z37zc => exact rfl); (case z37zd => exact rfl); k_whole)
    | (refine' c_item ?z37zN ?z37zm ?z37za ?z37zb ?z37zc ?_ ?z37zz; (case z37zN => k_asm); (case z37zm => k_mem); (case z37za => decide); (case z37zb => decide); (case z37zc => exact rfl); (case z37zz => with_unfolding_all rfl); k_whole)))
  k_with "subscriptTail Name Constant ref int" =>
    (k_here; (with_reducible show wpAny _ _ (subscriptTail _ _ (Value.ref _) (Value.int _ _)) _ _ _); k_dflt (first
    | (refine' item_tupleT ?z38zt ?z38za ?z38zb ?z38zc ?z38zd ?_; (case z38zt => exact News.isTup (by k_asm) (by k_mem)); (case z38za => decide); (case z38zb => decide); (case z38zc => exact rfl); (case z38zd => exact rfl); k_whole)
    | (refine' c_item ?z38zN ?z38zm ?z38za ?z38zb ?z38zc ?_ ?z38zz; (case z38zN => k_asm); (case z38zm => k_mem); (case z38za => decide); (case z38zb => decide); (case z38zc => exact rfl); (case z38zz => with_unfolding_all rfl); k_whole)))
  trivial
section
variable {w : World} {mean : ExcName → Option Value} {mg mb : PySem.Str → Option Value} {dp un : Nat} {gd : Option (List Code)} {cn : PySem.Str} {cs : Scope} {a₀ : Addr} {ccd : Value} {cl : List (PySem.Str × Addr)} {outer : List Env}
  {A₀ : Around} {base h₀ : Heap} {L : Addr} {m : PySem.Str → Option Value} {s : Shared} {news : List (Addr × Obj)} {Q E : Value → Shared → Prop}
theorem lines_C3_2 : True := by
  k_with "call ref" =>
    (k_here; (with_reducible show wpAny _ _ (call (Value.ref 187) [Value.int _ _]) _ _ _); k_dflt (refine' c_of_int ?z39zcB ?z39zcF ?z39zcX ?z39zcN ?z39zcT ?z39zcK ?z39zcD ?z39zcU ?z39zp0 ?_; (case z39zcB => k_asm); (case z39zcF => k_asm); (case z39zcX => k_asm); (case z39zcN => k_asm); (case z39zcT => k_asm); (case z39zcK => first | exact rfl | assumption); (case z39zcD => walk_at "c dp"); (case z39zcU => walk_at "c un"); (case z39zp0 => walk_at "c bnd"); intro x' d' q1' q2' q3' q4' h' tk' F' N' l1 l2 hq'; (try simp only [AllLt, and_true] at l1); (try k_lt2 l2); (try k_sweep); (try dsimp only); (try k_fold)))
  k_with "call ref" =>
    (k_here; (with_reducible show wpAny _ _ (call (Value.ref 187) [Value.ref _]) _ _ _); k_dflt (refine' c_of_dec ?z40zcB ?z40zcF ?z40zcX ?z40zcN ?z40zcT ?z40zcK ?z40zcD ?z40zcU ?z40zp0 ?z40zp1 ?_; (case z40zcB => k_asm); (case z40zcF => k_asm); (case z40zcX => k_asm); (case z40zcN => k_asm); (case z40zcT => k_asm); (case z40zcK => first | exact rfl | assumption); (case z40zcD => walk_at "c dp"); (case z40zcU => walk_at "c un"); (case z40zp0 => k_mem); (case z40zp1 => k_mem); intro h' tk' F' N'; (try k_sweep); (try dsimp only); (try k_fold)))
  trivial

theorem c_scale {a da b db : Addr} {q r : Rat} {k1 k2 k3 k4 j1 j2 j3 j4 : Tok} {n k : Nat} (B : Below A₀ base outer h₀) (F : Fr h₀ L s.heap m) (X : (Mine.hd0.heap_1 w.params).In h₀) (N : News h₀ L s.heap news) (T : Top VW LS mean mg mb h₀) (hk : cs.kind = .function) (hd : dp + 15 < recursionLimit) (hu : un + 150 < cLine)
    (ha : (a, instObj 155 da) ∈ news) (hda : (da, decObj w q k1 k2 k3 k4) ∈ news) (hq : DecQ q n)
    (hb : (b, instObj 155 db) ∈ news) (hdb : (db, decObj w r j1 j2 j3 j4) ∈ news) (hr : DecQ r k) (hn : n ≤ 10000) (hkk : k ≤ 10000)
    (ret : ∀ t A B P i1 i2 i3 h' tk', Fr h₀ L h' m → News h₀ L h' ((t, ({ cls := .type "tuple", data := .seq #[.int A i1, .int B i2, .int P i3] } : Obj)) :: news) → AllLt t news →
      (A : Rat) = q * (ten P : Rat) → (B : Rat) = r * (ten P : Rat) → Bnd A (n + k) → Bnd B (n + k) → 0 ≤ P → P ≤ n ∨ P ≤ k → P = (if dplc r > dplc q then dplc r else dplc q) → Q (.ref t) { s with heap := h', toks := tk' }) : wpAny (model PySem.Challenge.rw_qz0079_01.row.prog w) (ktrTop dp un gd cn cs L a₀ ccd cl outer) (call (.ref 194) [.ref a, .ref b]) Q E s := by
  have bq := hq.bnd
  have br := hr.bnd
  have pq := hq.plc
  have pr := hr.plc
  have nq := hq.nn
  have nr := hr.nn
  revert X; k_fill; intro X
  w_on
  refine wpAny_call ?_
  k_dflt ktr_enter
  k_steps

  rename Fr h₀ L _ m => kF
  rename News h₀ L _ _ => kN
  refine ret _ _ _ _ _ _ _ _ _ kF kN (allLt_of (by assumption)) (scaled hq.nf (by walk_at "c ar")) (scaled hr.nf (by walk_at "c ar")) (Bnd.mono (Bnd.mul bq (Bnd.pow _)) (by walk_at "c ar")) (Bnd.mono (Bnd.mul br (Bnd.pow _)) (by walk_at "c ar")) (by walk_at "c ar") (by walk_at "c ar") rfl
end
end PartC3
section PartC4
theorem lines_C4_1 : True := by
  k_with_none
  k_with "c mem" =>
    first | ((with_reducible refine' mem_here ?z41zh9); (case z41zh9 => exact rfl)) | ((with_reducible refine' mem_nth 1 ?z41zh9); (case z41zh9 => exact rfl)) | ((with_reducible refine' mem_nth 2 ?z41zh9); (case z41zh9 => exact rfl)) | ((with_reducible refine' mem_nth 3 ?z41zh9); (case z41zh9 => exact rfl)) | ((with_reducible refine' mem_nth 4 ?z41zh9); (case z41zh9 => exact rfl)) | ((with_reducible refine' mem_nth 5 ?z41zh9); (case z41zh9 => exact rfl)) | ((with_reducible refine' mem_nth 6 ?z41zh9); (case z41zh9 => exact rfl)) | ((with_reducible refine' mem_nth 7 ?z41zh9); (case z41zh9 => exact rfl)) | ((with_reducible refine' mem_nth 8 ?z41zh9); (case z41zh9 => exact rfl)) | ((with_reducible refine' mem_nth 9 ?z41zh9); (case z41zh9 => exact rfl)) | ((with_reducible refine' mem_skip ?_); walk_at "c mem") | (with_reducible exact List.mem_append_left _ (by with_reducible assumption)) | ktr_member | ((with_reducible refine' List.mem_cons_of_mem _ ?_); walk_at "c mem") | ((with_reducible refine' List.mem_append_right _ ?_); walk_at "c mem")
  k_with "c room" =>
    with_reducible first | assumption | exact room1 (by assumption) rfl | exact room2 (by assumption) rfl | exact room3 (by assumption) rfl | exact room4 (by assumption) rfl
  k_with "c le" =>
    with_reducible first | assumption | exact Nat.le_trans (by assumption) (by decide)
  k_with "c lt1" =>
    with_reducible first | assumption | exact cj0 | exact cj1 | exact cj2 | exact cj3 | exact cj4 | exact cj5 | exact cj6 | exact cj7 | exact cj8 | exact cj9 | exact cj10 | exact cj11 | exact cj12 | exact cj13 | exact cj14 | exact cj15 | exact cj16 | exact cj17 | exact cj18 | exact cj19 | exact cj20 | exact cj21 | exact cj22 | exact cj23 | exact And.right (by with_reducible assumption) | exact And.right (And.right (by with_reducible assumption)) | exact And.right (And.right (And.right (by with_reducible assumption))) | exact And.right (And.right (And.right (And.right (by with_reducible assumption))))
  k_with "c lt2" =>
    ((with_reducible refine' Nat.lt_trans ?z45za9 ?z45zb9); (case z45zb9 => with_reducible assumption); (case z45za9 => walk_at "c lt1"))
  k_with "c lt" =>
    first | walk_at "c lt1" | walk_at "c lt2"
  k_with "c up3" =>
    with_reducible first | exact abv3 (by assumption) | exact abv3_1 (by assumption) | exact abv3_2 (by assumption) | exact abv3_3 (by assumption) | exact abv3_4 (by assumption) | (refine' Abv3.tr ?z47za9 ?z47zb9; (case z47za9 => assumption); (case z47zb9 => walk_at "c up3"))
  k_with "c ne" =>
    first | with_reducible (first | assumption | exact And.left (by assumption) | exact Ne.symm (And.left (by assumption)) | exact And.left (And.right (by assumption)) | exact Ne.symm (And.left (And.right (by assumption))) | exact And.right (And.right (by assumption)) | exact Ne.symm (And.right (And.right (by assumption))) | exact neq_lt (by assumption) | exact neq_gt (by assumption) | exact nl0 | exact nr0 | exact nl1 | exact nr1 | exact nl2 | exact nr2 | exact nl3 | exact nr3 | exact nl4 | exact nr4 | exact nl5 | exact nr5 | exact nl6 | exact nr6 | exact nl7 | exact nr7 | exact nl8 | exact nr8 | exact nl9 | exact nr9 | exact nl10 | exact nr10 | exact nl11 | exact nr11 | exact nl12 | exact nr12 | exact nl13 | exact nr13 | exact nl14 | exact nr14 | exact nl15 | exact nr15 | exact nl16 | exact nr16 | exact nl17 | exact nr17 | exact nl18 | exact nr18 | exact nl19 | exact nr19 | exact nl20 | exact nr20 | exact nl21 | exact nr21 | exact nl22 | exact nr22 | exact nl23 | exact nr23) | ((with_reducible refine' neq_lt ?z48zz9); (case z48zz9 => walk_at "c lt2")) | ((with_reducible refine' neq_gt ?z48zz9); (case z48zz9 => walk_at "c lt2")) | ((try dsimp only); omega)
  k_with "c dp" =>
    ((try simp only [depth_under_make, depth_under_kw, depth_in1, depth_deeper, depth_caller]); (try dsimp only [ktrTop]); first | walk_at "c room" | omega | decide)
  k_with "c un" =>
    ((try simp only [units_make, units_in1, units_deeper, Around.mark_units, units_caller]); (try dsimp only [ktrTop]); first | walk_at "c room" | omega | decide)
  k_with "c sub" =>
    first | (refine List.forall_mem_cons.mpr ⟨?z51za, ?z51zb⟩; (case z51za => walk_at "c mem"); (case z51zb => walk_at "c sub")) | exact List.forall_mem_nil _ | (intro p9 h9; (repeat (first | exact h9 | refine List.mem_cons_of_mem _ ?_ | refine List.mem_append_left _ ?_)))
  k_with "c bnd" =>
    with_reducible (first | assumption | exact Bnd.pow _ | (refine' Bnd.fdiv ?z52za; (case z52za => walk_at "c bnd")) | (exact Bnd.mul (by walk_at "c bnd") (by walk_at "c bnd")) | (exact Bnd.add1 (by walk_at "c bnd") (by walk_at "c bnd")) | (exact Bnd.sub1 (by walk_at "c bnd") (by walk_at "c bnd")) | (exact Bnd.add (by walk_at "c bnd") (by walk_at "c bnd")) | (exact Bnd.sub (by walk_at "c bnd") (by walk_at "c bnd")))
  k_with "c ar" =>
    first | assumption | decide | omega | (split <;> omega)
  k_with "c mul" =>
    exact mulOk_bnd (by walk_at "c bnd") (by walk_at "c bnd") (by walk_at "c ar") (by walk_at "c ar")
  k_with "binaryOp Pow int int" =>
    ((with_reducible refine pow_int_small ?z55zkb1 ?z55zkb2 ?z55zkb3 ?_); (case z55zkb1 => walk_at "c ar"); (case z55zkb2 => walk_at "c ar"); (case z55zkb3 => decide))
  k_with "call ref" =>
    (k_here; (with_reducible show wpAny _ _ (call (Prod.fst _) (_ ++ _)) _ _ _); dsimp only [List.nil_append, List.cons_append])
  k_with "subscriptTail" =>
    (k_here; (with_reducible show wpAny _ _ (subscriptTail _ _ (Value.ref _) (Value.int _ _)) _ _ _); k_dflt (first
    | (refine' item_tupleT ?z57zt ?z57za ?z57zb ?z57zc ?z57zd ?_; (case z57zt => exact News.isTup (by k_asm) (by k_mem)); (case z57za => decide); (case z57zb => decide); (case z57zc => exact rfl); (case z57zd => exact rfl); k_whole)
    | (refine' c_item ?z57zN ?z57zm ?z57za ?z57zb ?z57zc ?_ ?z57zz; (case z57zN => k_asm); (case z57zm => k_mem); (case z57za => decide); (case z57zb => decide); (case z57zc => exact rfl); (case z57zz => with_unfolding_all rfl); k_whole)))
  k_with "subscriptTail Name Constant ref int" =>
    (k_here; (with_reducible show wpAny _ _ (subscriptTail _ _ (Value.ref _) (Value.int _ _)) _ _ _); k_dflt (first
    | (refine' item_tupleT ?z58zt ?z58za ?z58zb ?z58zc ?z58zd ?_; (case z58zt => exact News.isTup (by k_asm) (by k_mem)); (case z58za => decide); (case z58zb => decide); (case z58zc => exact rfl); (case z58zd => exact rfl); k_whole)
    | (refine' c_item ?z58zN ?z58zm ?z58za ?z58zb ?z58zc ?_ ?z58zz; (case z58zN => k_asm); (case z58zm => k_mem); (case z58za => decide); (case z58zb => decide); (case z58zc => exact rfl); (case z58zz => with_unfolding_all rfl); k_whole)))
  trivial
section
variable {w : World} {mean : ExcName → Option Value} {mg mb : PySem.Str → Option Value} {dp un : Nat} {gd : Option (List Code)} {cn : PySem.Str} {cs : Scope} {a₀ : Addr} {ccd : Value} {cl : List (PySem.Str × Addr)} {outer : List Env}
  {A₀ : Around} {base h₀ : Heap} {L : Addr} {m : PySem.Str → Option Value} {s : Shared} {news : List (Addr × Obj)} {Q E : Value → Shared → Prop}
theorem lines_C4_2 : True := by
  k_with "call ref" =>
    (k_here; (with_reducible show wpAny _ _ (call (Value.ref 187) [Value.int _ _]) _ _ _); k_dflt (refine' c_of_int ?z59zcB ?z59zcF ?z59zcX ?z59zcN ?z59zcT ?z59zcK ?z59zcD ?z59zcU ?z59zp0 ?_; (case z59zcB => k_asm); (case z59zcF => k_asm); (case z59zcX => k_asm); (case z59zcN => k_asm); (case z59zcT => k_asm); (case z59zcK => first | exact rfl | assumption); (case z59zcD => walk_at "c dp"); (case z59zcU => walk_at "c un"); (case z59zp0 => walk_at "c bnd"); intro x' d' q1' q2' q3' q4' h' tk' F' N' l1 l2 hq'; (try simp only [AllLt, and_true] at l1); (try k_lt2 l2); (try k_sweep); (try dsimp only); (try k_fold)))
  k_with "call ref" =>
    (k_here; (with_reducible show wpAny _ _ (call (Value.ref 187) [Value.ref _]) _ _ _); k_dflt (refine' c_of_dec ?z60zcB ?z60zcF ?z60zcX ?z60zcN ?z60zcT ?z60zcK ?z60zcD ?z60zcU ?z60zp0 ?z60zp1 ?_; (case z60zcB => k_asm); (case z60zcF => k_asm); (case z60zcX => k_asm); (case z60zcN => k_asm); (case z60zcT => k_asm); (case z60zcK => first | exact rfl | assumption); (case z60zcD => walk_at "c dp"); (case z60zcU => walk_at "c un"); (case z60zp0 => k_mem); (case z60zp1 => k_mem); intro h' tk' F' N'; (try k_sweep); (try dsimp only); (try k_fold)))
  k_with "call ref" =>
    (k_here; (with_reducible show wpAny _ _ (call (Value.ref 194) [Value.ref _, Value.ref _]) _ _ _); k_dflt (refine' c_scale ?z61zcB ?z61zcF ?z61zcX ?z61zcN ?z61zcT ?z61zcK ?z61zcD ?z61zcU ?z61zp0 ?z61zp1 ?z61zp2 ?z61zp3 ?z61zp4 ?z61zp5 ?z61zp6 ?z61zp7 ?_; (case z61zcB => k_asm); (case z61zcF => k_asm); (case z61zcX => k_asm); (case z61zcN => k_asm); (case z61zcT => k_asm); (case z61zcK => first | exact rfl | assumption); (case z61zcD => walk_at "c dp"); (case z61zcU => walk_at "c un"); (case z61zp0 => k_mem); (case z61zp1 => k_mem); (case z61zp2 => with_reducible assumption); (case z61zp3 => k_mem); (case z61zp4 => k_mem); (case z61zp5 => with_reducible assumption); (case z61zp6 => first | walk_at "c le" | decide | omega); (case z61zp7 => first | walk_at "c le" | decide | omega); intro t' A' B' P' i1' i2' i3' h' tk' F' N' l1 eA eB bA bB nP lP eP; (try simp only [AllLt, and_true] at l1); (try k_sweep); (try dsimp only); (try k_fold)))
  k_with "call ref" =>
    (k_here; (with_reducible show wpAny _ _ (call (Value.ref 155) [Value.int _ _, Value.int _ _]) _ _ _); k_dflt (refine' c_new ?z62zcB ?z62zcF ?z62zcX ?z62zcN ?z62zcT ?z62zcK ?z62zcD ?z62zcU ?z62zp0 ?z62zp1 ?z62zp2 ?_; (case z62zcB => k_asm); (case z62zcF => k_asm); (case z62zcX => k_asm); (case z62zcN => k_asm); (case z62zcT => k_asm); (case z62zcK => first | exact rfl | assumption); (case z62zcD => walk_at "c dp"); (case z62zcU => walk_at "c un"); (case z62zp0 => walk_at "c bnd"); (case z62zp1 => first | walk_at "c le" | decide | omega); (case z62zp2 => first | walk_at "c le" | decide | omega); intro x' d' q1' q2' q3' q4' h' tk' F' N' l1 l2 hq'; (try simp only [AllLt, and_true] at l1); (try k_lt2 l2); (try k_sweep); (try dsimp only); (try k_fold)))
  k_with "call ref" =>
    (k_here; (with_reducible show wpAny _ _ (call (Value.ref 155) [Value.int _ _, Value.int 0 _]) _ _ _); k_dflt (refine' c_new0 ?z63zcB ?z63zcF ?z63zcX ?z63zcN ?z63zcT ?z63zcK ?z63zcD ?z63zcU ?z63zp0 ?_; (case z63zcB => k_asm); (case z63zcF => k_asm); (case z63zcX => k_asm); (case z63zcN => k_asm); (case z63zcT => k_asm); (case z63zcK => first | exact rfl | assumption); (case z63zcD => walk_at "c dp"); (case z63zcU => walk_at "c un"); (case z63zp0 => walk_at "c bnd"); intro x' d' q1' q2' q3' q4' h' tk' F' N' l1 l2 hq'; (try simp only [AllLt, and_true] at l1); (try k_lt2 l2); (try k_sweep); (try dsimp only); (try k_fold)))
  trivial

theorem c_plus (B : Below A₀ base outer h₀) (F : Fr h₀ L s.heap m) (X : (Mine.hd0.heap_1 w.params).In h₀) (N : News h₀ L s.heap news) (T : Top VW LS mean mg mb h₀) (hk : cs.kind = .function) (hd : dp + 20 < recursionLimit) (hu : un + 200 < cLine) {a da : Addr} {q : Rat} {n : Nat} {ka1 ka2 ka3 ka4 : Tok} (ha : (a, instObj 155 da) ∈ news) (hda : (da, decObj w q ka1 ka2 ka3 ka4) ∈ news) (hq : DecQ q n) {b db : Addr} {r : Rat} {k : Nat} {kb1 kb2 kb3 kb4 : Tok} (hb : (b, instObj 155 db) ∈ news) (hdb : (db, decObj w r kb1 kb2 kb3 kb4) ∈ news) (hr : DecQ r k) (hn : n ≤ 1000) (hkk : k ≤ 1000) (ret : RetDec w h₀ L m news s Q (q + r) (n + k + 1)) : wpAny (model PySem.Challenge.rw_qz0079_01.row.prog w) (ktrTop dp un gd cn cs L a₀ ccd cl outer) (call (.ref 82) [.ref a, .ref b]) Q E s := by
  have bq := hq.bnd
  have pq := hq.plc
  have nq := hq.nn
  have br := hr.bnd
  have pr := hr.plc
  have nr := hr.nn
  revert X; k_fill; intro X
  w_on
  refine wpAny_call ?_
  k_dflt ktr_enter
  k_steps
  rename Fr h₀ L _ m => kF
  rename News h₀ L _ _ => kN
  rename DecQ (_ / _) _ => hq9
  rename (_ : Rat) = q * _ => eA9
  rename (_ : Rat) = r * _ => eB9
  rw [of_scaled_add eA9 eB9] at kN hq9
  refine ret _ _ _ _ _ _ _ _ kF (news_pick2 kN (by k_mem) (by k_mem) (by intro p9 h9; (repeat (first | exact h9 | refine List.mem_cons_of_mem _ ?_)))) (by first | tbn_find | exact allLt_of (by assumption)) (by assumption) hq9

theorem c_minus (B : Below A₀ base outer h₀) (F : Fr h₀ L s.heap m) (X : (Mine.hd0.heap_1 w.params).In h₀) (N : News h₀ L s.heap news) (T : Top VW LS mean mg mb h₀) (hk : cs.kind = .function) (hd : dp + 20 < recursionLimit) (hu : un + 200 < cLine) {a da : Addr} {q : Rat} {n : Nat} {ka1 ka2 ka3 ka4 : Tok} (ha : (a, instObj 155 da) ∈ news) (hda : (da, decObj w q ka1 ka2 ka3 ka4) ∈ news) (hq : DecQ q n) {b db : Addr} {r : Rat} {k : Nat} {kb1 kb2 kb3 kb4 : Tok} (hb : (b, instObj 155 db) ∈ news) (hdb : (db, decObj w r kb1 kb2 kb3 kb4) ∈ news) (hr : DecQ r k) (hn : n ≤ 1000) (hkk : k ≤ 1000) (ret : RetDec w h₀ L m news s Q (q - r) (n + k + 1)) : wpAny (model PySem.Challenge.rw_qz0079_01.row.prog w) (ktrTop dp un gd cn cs L a₀ ccd cl outer) (call (.ref 89) [.ref a, .ref b]) Q E s := by
  have bq := hq.bnd
  have pq := hq.plc
  have nq := hq.nn
  have br := hr.bnd
  have pr := hr.plc
  have nr := hr.nn
  revert X; k_fill; intro X
  w_on
  refine wpAny_call ?_
  k_dflt ktr_enter
  k_steps
  rename Fr h₀ L _ m => kF
  rename News h₀ L _ _ => kN
  rename DecQ (_ / _) _ => hq9
  rename (_ : Rat) = q * _ => eA9
  rename (_ : Rat) = r * _ => eB9
  rw [of_scaled_sub eA9 eB9] at kN hq9
  refine ret _ _ _ _ _ _ _ _ kF (news_pick2 kN (by k_mem) (by k_mem) (by intro p9 h9; (repeat (first | exact h9 | refine List.mem_cons_of_mem _ ?_)))) (by first | tbn_find | exact allLt_of (by assumption)) (by assumption) hq9

theorem c_times (B : Below A₀ base outer h₀) (F : Fr h₀ L s.heap m) (X : (Mine.hd0.heap_1 w.params).In h₀) (N : News h₀ L s.heap news) (T : Top VW LS mean mg mb h₀) (hk : cs.kind = .function) (hd : dp + 20 < recursionLimit) (hu : un + 200 < cLine) {a da : Addr} {q : Rat} {n : Nat} {ka1 ka2 ka3 ka4 : Tok} (ha : (a, instObj 155 da) ∈ news) (hda : (da, decObj w q ka1 ka2 ka3 ka4) ∈ news) (hq : DecQ q n) {b db : Addr} {r : Rat} {k : Nat} {kb1 kb2 kb3 kb4 : Tok} (hb : (b, instObj 155 db) ∈ news) (hdb : (db, decObj w r kb1 kb2 kb3 kb4) ∈ news) (hr : DecQ r k) (hn : n ≤ 1000) (hkk : k ≤ 1000) (ret : RetDec w h₀ L m news s Q (q * r) (n + k)) : wpAny (model PySem.Challenge.rw_qz0079_01.row.prog w) (ktrTop dp un gd cn cs L a₀ ccd cl outer) (call (.ref 96) [.ref a, .ref b]) Q E s := by
  have bq := hq.bnd
  have pq := hq.plc
  have nq := hq.nn
  have br := hr.bnd
  have pr := hr.plc
  have nr := hr.nn
  revert X; k_fill; intro X
  w_on
  refine wpAny_call ?_
  k_dflt ktr_enter
  k_steps
  rename Fr h₀ L _ m => kF
  rename News h₀ L _ _ => kN
  rename DecQ (_ / _) _ => hq9
  rw [of_times hq hr] at kN hq9
  refine ret _ _ _ _ _ _ _ _ kF (news_pick2 kN (by k_mem) (by k_mem) (by intro p9 h9; (repeat (first | exact h9 | refine List.mem_cons_of_mem _ ?_)))) (by first | tbn_find | exact allLt_of (by assumption)) (by assumption) hq9

theorem c_compared (B : Below A₀ base outer h₀) (F : Fr h₀ L s.heap m) (X : (Mine.hd0.heap_1 w.params).In h₀) (N : News h₀ L s.heap news) (T : Top VW LS mean mg mb h₀) (hk : cs.kind = .function) (hd : dp + 20 < recursionLimit) (hu : un + 200 < cLine) {a da : Addr} {q : Rat} {n : Nat} {ka1 ka2 ka3 ka4 : Tok} (ha : (a, instObj 155 da) ∈ news) (hda : (da, decObj w q ka1 ka2 ka3 ka4) ∈ news) (hq : DecQ q n) {b db : Addr} {r : Rat} {k : Nat} {kb1 kb2 kb3 kb4 : Tok} (hb : (b, instObj 155 db) ∈ news) (hdb : (db, decObj w r kb1 kb2 kb3 kb4) ∈ news) (hr : DecQ r k) (hn : n ≤ 1000) (hkk : k ≤ 1000) (ret : ∀ c i1 h' tk', Fr h₀ L h' m → News h₀ L h' news → (c = 0 ∧ q = r ∨ c = 1 ∧ r < q ∨ c = -1 ∧ q < r) → Q (.int c i1) { s with heap := h', toks := tk' }) : wpAny (model PySem.Challenge.rw_qz0079_01.row.prog w) (ktrTop dp un gd cn cs L a₀ ccd cl outer) (call (.ref 110) [.ref a, .ref b]) Q E s := by
  have bq := hq.bnd
  have pq := hq.plc
  have nq := hq.nn
  have br := hr.bnd
  have pr := hr.plc
  have nr := hr.nn
  revert X; k_fill; intro X
  w_on
  refine wpAny_call ?_
  k_dflt ktr_enter
  k_steps
  rename Fr h₀ L _ m => kF
  rename News h₀ L _ _ => kN
  rename (_ : Rat) = q * _ => eA9
  rename (_ : Rat) = r * _ => eB9
  refine ret _ _ _ _ kF (fun p hp => kN p (by first | exact hp | exact List.mem_cons_of_mem _ hp)) ?_
  split
  · exact .inl ⟨rfl, cmp_eq eA9 eB9 (by assumption)⟩
  · split
    · exact .inr (.inl ⟨rfl, cmp_lt eB9 eA9 (by omega)⟩)
    · exact .inr (.inr ⟨rfl, cmp_lt eA9 eB9 (by omega)⟩)
theorem c_told (B : Below A₀ base outer h₀) (F : Fr h₀ L s.heap m) (X : (Mine.hd0.heap_1 w.params).In h₀) (N : News h₀ L s.heap news) (T : Top VW LS mean mg mb h₀) (hk : cs.kind = .function) (hd : dp + 20 < recursionLimit) (hu : un + 200 < cLine) {a da : Addr} {q : Rat} {n : Nat} {ka1 ka2 ka3 ka4 : Tok} (ha : (a, instObj 155 da) ∈ news) (hda : (da, decObj w q ka1 ka2 ka3 ka4) ∈ news) (hq : DecQ q n) (ret : ∀ t i1 i2 h' tk', Fr h₀ L h' m → News h₀ L h' ((t, ({ cls := .type "tuple", data := .seq #[.int (dtop q) i1, .int (dplc q) i2] } : Obj)) :: news) → AllLt t news → Q (.ref t) { s with heap := h', toks := tk' }) : wpAny (model PySem.Challenge.rw_qz0079_01.row.prog w) (ktrTop dp un gd cn cs L a₀ ccd cl outer) (call (.ref 138) [.ref a]) Q E s := by
  have bq := hq.bnd
  have pq := hq.plc
  have nq := hq.nn
  revert X; k_fill; intro X
  w_on
  refine wpAny_call ?_
  k_dflt ktr_enter
  k_steps
  rename Fr h₀ L _ m => kF
  rename News h₀ L _ _ => kN
  exact ret _ _ _ _ _ kF kN (allLt_of (by assumption))
end
end PartC4
section PartC5
theorem lines_C5_1 : True := by
  k_with_none
  k_with "c mem" =>
    first | ((with_reducible refine' mem_here ?z64zh9); (case z64zh9 => exact rfl)) | ((with_reducible refine' mem_nth 1 ?z64zh9); (case z64zh9 => exact rfl)) | ((with_reducible refine' mem_nth 2 ?z64zh9); (case z64zh9 => exact rfl)) | ((with_reducible refine' mem_nth 3 ?z64zh9); (case z64zh9 => exact rfl)) | ((with_reducible refine' mem_nth 4 ?z64zh9); (case z64zh9 => exact rfl)) | ((with_reducible refine' mem_nth 5 ?z64zh9); (case z64zh9 => exact rfl)) | ((with_reducible refine' mem_nth 6 ?z64zh9); (case z64zh9 => exact rfl)) | ((with_reducible refine' mem_nth 7 ?z64zh9); (case z64zh9 => exact rfl)) | ((with_reducible refine' mem_nth 8 ?z64zh9); (case z64zh9 => exact rfl)) | ((with_reducible refine' mem_nth 9 ?z64zh9); (case z64zh9 => exact rfl)) | ((with_reducible refine' mem_skip ?_); walk_at "c mem") | (with_reducible exact List.mem_append_left _ (by with_reducible assumption)) | ktr_member | ((with_reducible refine' List.mem_cons_of_mem _ ?_); walk_at "c mem") | ((with_reducible refine' List.mem_append_right _ ?_); walk_at "c mem")
  k_with "c room" =>
    with_reducible first | assumption | exact room1 (by assumption) rfl | exact room2 (by assumption) rfl | exact room3 (by assumption) rfl | exact room4 (by assumption) rfl
  k_with "c le" =>
    with_reducible first | assumption | exact Nat.le_trans (by assumption) (by decide)
  k_with "c lt1" =>
    with_reducible first | assumption | exact cj0 | exact cj1 | exact cj2 | exact cj3 | exact cj4 | exact cj5 | exact cj6 | exact cj7 | exact cj8 | exact cj9 | exact cj10 | exact cj11 | exact cj12 | exact cj13 | exact cj14 | exact cj15 | exact cj16 | exact cj17 | exact cj18 | exact cj19 | exact cj20 | exact cj21 | exact cj22 | exact cj23 | exact And.right (by with_reducible assumption) | exact And.right (And.right (by with_reducible assumption)) | exact And.right (And.right (And.right (by with_reducible assumption))) | exact And.right (And.right (And.right (And.right (by with_reducible assumption))))
  k_with "c lt2" =>
    ((with_reducible refine' Nat.lt_trans ?z68za9 ?z68zb9); (case z68zb9 => with_reducible assumption); (case z68za9 => walk_at "c lt1"))
  k_with "c lt" =>
    first | walk_at "c lt1" | walk_at "c lt2"
  k_with "c up3" =>
    with_reducible first | exact abv3 (by assumption) | exact abv3_1 (by assumption) | exact abv3_2 (by assumption) | exact abv3_3 (by assumption) | exact abv3_4 (by assumption) | (refine' Abv3.tr ?z70za9 ?z70zb9; (case z70za9 => assumption); (case z70zb9 => walk_at "c up3"))
  k_with "c ne" =>
    first | with_reducible (first | assumption | exact And.left (by assumption) | exact Ne.symm (And.left (by assumption)) | exact And.left (And.right (by assumption)) | exact Ne.symm (And.left (And.right (by assumption))) | exact And.right (And.right (by assumption)) | exact Ne.symm (And.right (And.right (by assumption))) | exact neq_lt (by assumption) | exact neq_gt (by assumption) | exact nl0 | exact nr0 | exact nl1 | exact nr1 | exact nl2 | exact nr2 | exact nl3 | exact nr3 | exact nl4 | exact nr4 | exact nl5 | exact nr5 | exact nl6 | exact nr6 | exact nl7 | exact nr7 | exact nl8 | exact nr8 | exact nl9 | exact nr9 | exact nl10 | exact nr10 | exact nl11 | exact nr11 | exact nl12 | exact nr12 | exact nl13 | exact nr13 | exact nl14 | exact nr14 | exact nl15 | exact nr15 | exact nl16 | exact nr16 | exact nl17 | exact nr17 | exact nl18 | exact nr18 | exact nl19 | exact nr19 | exact nl20 | exact nr20 | exact nl21 | exact nr21 | exact nl22 | exact nr22 | exact nl23 | exact nr23) | ((with_reducible refine' neq_lt ?z71zz9); (case z71zz9 => walk_at "c lt2")) | ((with_reducible refine' neq_gt ?z71zz9); (case z71zz9 => walk_at "c lt2")) | ((try dsimp only); omega)
  k_with "c dp" =>
    ((try simp only [depth_under_make, depth_under_kw, depth_in1, depth_deeper, depth_caller]); (try dsimp only [ktrTop]); first | walk_at "c room" | omega | decide)
  k_with "c un" =>
    ((try simp only [units_make, units_in1, units_deeper, Around.mark_units, units_caller]); (try dsimp only [ktrTop]); first | walk_at "c room" | omega | decide)
  k_with "c sub" =>
    first | (refine List.forall_mem_cons.mpr ⟨?z74za, ?z74zb⟩; (case z74za => walk_at "c mem"); (case z74zb => walk_at "c sub")) | exact List.forall_mem_nil _ | (intro p9 h9; (repeat (first | exact h9 | refine List.mem_cons_of_mem _ ?_ | refine List.mem_append_left _ ?_)))
  k_with "c bnd" =>
    with_reducible (first | assumption | exact Bnd.pow _ | (refine' Bnd.fdiv ?z75za; (case z75za => walk_at "c bnd")) | (exact Bnd.mul (by walk_at "c bnd") (by walk_at "c bnd")) | (exact Bnd.add1 (by walk_at "c bnd") (by walk_at "c bnd")) | (exact Bnd.sub1 (by walk_at "c bnd") (by walk_at "c bnd")) | (exact Bnd.add (by walk_at "c bnd") (by walk_at "c bnd")) | (exact Bnd.sub (by walk_at "c bnd") (by walk_at "c bnd")))
  k_with "c ar" =>
    first | assumption | decide | omega | (split <;> omega)
  k_with "c mul" =>
    exact mulOk_bnd (by walk_at "c bnd") (by walk_at "c bnd") (by walk_at "c ar") (by walk_at "c ar")
  k_with "binaryOp Pow int int" =>
    ((with_reducible refine pow_int_small ?z78zkb1 ?z78zkb2 ?z78zkb3 ?_); (case z78zkb1 => walk_at "c ar"); (case z78zkb2 => walk_at "c ar"); (case z78zkb3 => decide))
  k_with "call ref" =>
    (k_here; (with_reducible show wpAny _ _ (call (Prod.fst _) (_ ++ _)) _ _ _); dsimp only [List.nil_append, List.cons_append])
  k_with "subscriptTail" =>
    (k_here; (with_reducible show wpAny _ _ (subscriptTail _ _ (Value.ref _) (Value.int _ _)) _ _ _); k_dflt (first
    | (refine' item_tupleT ?z80zt ?z80za ?z80zb ?z80zc ?z80zd ?_; (case z80zt => exact News.isTup (by k_asm) (by k_mem)); (case z80za => decide); (case z80zb => decide); (case z80zc => exact rfl); (case z80zd => exact rfl); k_whole)
    | (refine' c_item ?z80zN ?z80zm ?z80za ?z80zb ?z80zc ?_ ?z80zz; (case z80zN => k_asm); (case z80zm => k_mem); (case z80za => decide); (case z80zb => decide); (case z80zc => exact rfl); (case z80zz => with_unfolding_all rfl); k_whole)))
  k_with "subscriptTail Name Constant ref int" =>
    (k_here; (with_reducible show wpAny _ _ (subscriptTail _ _ (Value.ref _) (Value.int _ _)) _ _ _); k_dflt (first
    | (refine' item_tupleT ?z81zt ?z81za ?z81zb ?z81zc ?z81zd ?_; (case z81zt => exact News.isTup (by k_asm) (by k_mem)); (case z81za => decide); (case z81zb => decide); (case z81zc => exact rfl); (case z81zd => exact rfl); k_whole)
    | (refine' c_item ?z81zN ?z81zm ?z81za ?z81zb ?z81zc ?_ ?z81zz; (case z81zN => k_asm); (case z81zm => k_mem); (case z81za => decide); (case z81zb => decide); (case z81zc => exact rfl); (case z81zz => with_unfolding_all rfl); k_whole)))
  trivial
section
variable {w : World} {mean : ExcName → Option Value} {mg mb : PySem.Str → Option Value} {dp un : Nat} {gd : Option (List Code)} {cn : PySem.Str} {cs : Scope} {a₀ : Addr} {ccd : Value} {cl : List (PySem.Str × Addr)} {outer : List Env}
  {A₀ : Around} {base h₀ : Heap} {L : Addr} {m : PySem.Str → Option Value} {s : Shared} {news : List (Addr × Obj)} {Q E : Value → Shared → Prop}
theorem lines_C5_2 : True := by
  k_with "call ref" =>
    (k_here; (with_reducible show wpAny _ _ (call (Value.ref 187) [Value.int _ _]) _ _ _); k_dflt (refine' c_of_int ?z82zcB ?z82zcF ?z82zcX ?z82zcN ?z82zcT ?z82zcK ?z82zcD ?z82zcU ?z82zp0 ?_; (case z82zcB => k_asm); (case z82zcF => k_asm); (case z82zcX => k_asm); (case z82zcN => k_asm); (case z82zcT => k_asm); (case z82zcK => first | exact rfl | assumption); (case z82zcD => walk_at "c dp"); (case z82zcU => walk_at "c un"); (case z82zp0 => walk_at "c bnd"); intro x' d' q1' q2' q3' q4' h' tk' F' N' l1 l2 hq'; (try simp only [AllLt, and_true] at l1); (try k_lt2 l2); (try k_sweep); (try dsimp only); (try k_fold)))
  k_with "call ref" =>
    (k_here; (with_reducible show wpAny _ _ (call (Value.ref 187) [Value.ref _]) _ _ _); k_dflt (refine' c_of_dec ?z83zcB ?z83zcF ?z83zcX ?z83zcN ?z83zcT ?z83zcK ?z83zcD ?z83zcU ?z83zp0 ?z83zp1 ?_; (case z83zcB => k_asm); (case z83zcF => k_asm); (case z83zcX => k_asm); (case z83zcN => k_asm); (case z83zcT => k_asm); (case z83zcK => first | exact rfl | assumption); (case z83zcD => walk_at "c dp"); (case z83zcU => walk_at "c un"); (case z83zp0 => k_mem); (case z83zp1 => k_mem); intro h' tk' F' N'; (try k_sweep); (try dsimp only); (try k_fold)))
  k_with "c fr" =>
    with_reducible first | assumption | exact cr1 (by assumption) | exact cr2 (by assumption) | exact cr3 (by assumption) | exact cr4 (by assumption) | exact cr5 (by assumption) | exact cr6 (by assumption) | exact cr7 (by assumption) | exact cr8 (by assumption) | exact cr9 (by assumption) | exact cr10 (by assumption) | exact cr11 (by assumption) | exact cr12 (by assumption) | exact cr13 (by assumption) | exact cr14 (by assumption) | exact cr15 (by assumption) | exact cr16 (by assumption) | exact cr17 (by assumption) | exact cr18 (by assumption) | exact cr19 (by assumption) | exact cr20 (by assumption) | exact cr21 (by assumption) | exact cr22 (by assumption) | exact cr23 (by assumption) | exact cr24 (by assumption) | exact cr25 (by assumption) | exact cr26 (by assumption) | exact cr27 (by assumption) | exact cr28 (by assumption) | exact cr29 (by assumption) | exact cr30 (by assumption) | exact cr31 (by assumption) | exact cr32 (by assumption) | exact cr33 (by assumption) | exact cr34 (by assumption) | exact cr35 (by assumption) | (refine' tbn_up ?z84za ?z84zb; (case z84za => assumption); (case z84zb => walk_at "c fr"))
  trivial

theorem c_mat6 (B : Below A₀ base outer h₀) (F : Fr h₀ L s.heap m) (X : (Mine.hd0.heap_1 w.params).In h₀) (N : News h₀ L s.heap news) (T : Top VW LS mean mg mb h₀) (hk : cs.kind = .function) (hd : dp + 25 < recursionLimit) (hu : un + 250 < cLine) {a da : Addr} {qa : Rat} {ka1 ka2 ka3 ka4 : Tok} (ha : (a, instObj 155 da) ∈ news) (hda : (da, decObj w qa ka1 ka2 ka3 ka4) ∈ news) {b db : Addr} {qb : Rat} {kb1 kb2 kb3 kb4 : Tok} (hb : (b, instObj 155 db) ∈ news) (hdb : (db, decObj w qb kb1 kb2 kb3 kb4) ∈ news) {c dc : Addr} {qc : Rat} {kc1 kc2 kc3 kc4 : Tok} (hc : (c, instObj 155 dc) ∈ news) (hdc : (dc, decObj w qc kc1 kc2 kc3 kc4) ∈ news) {d dd : Addr} {qd : Rat} {kd1 kd2 kd3 kd4 : Tok} (hd : (d, instObj 155 dd) ∈ news) (hdd : (dd, decObj w qd kd1 kd2 kd3 kd4) ∈ news) {e de : Addr} {qe : Rat} {ke1 ke2 ke3 ke4 : Tok} (he : (e, instObj 155 de) ∈ news) (hde : (de, decObj w qe ke1 ke2 ke3 ke4) ∈ news) {f df : Addr} {qf : Rat} {kf1 kf2 kf3 kf4 : Tok} (hf : (f, instObj 155 df) ∈ news) (hdf : (df, decObj w qf kf1 kf2 kf3 kf4) ∈ news)
    (ret : ∀ x dx k1 k2 k3 k4 k5 k6 h' tk', Fr h₀ L h' m → News h₀ L h' ((x, instObj 279 dx) :: (dx, matObj w a b c d e f k1 k2 k3 k4 k5 k6) :: news) → AllLt dx news → dx < x → Q (.ref x) { s with heap := h', toks := tk' }) : wpAny (model PySem.Challenge.rw_qz0079_01.row.prog w) (ktrTop dp un gd cn cs L a₀ ccd cl outer) (call (.ref 279) [.ref a, .ref b, .ref c, .ref d, .ref e, .ref f]) Q E s := by
  revert X; k_fill; intro X
  w_on
  k_dflt (refine' call_cls ?k1 ?k2 ?k3 ?k4 ?k5 ?k6 ?_; (case k1 => k_asm); (case k2 => k_asm); (case k3 => k_asm); (case k4 => k_is); (case k5 => k_is); (case k6 => k_is); k_whole; intro x' d' h' F' N' l1 l2; have l1' := l1; have l2' := l2; replace l1' := allLt_of l1'; (try k_lt l1); (try k_lt2 l2); (try k_sweep))
  k_dflt ktr_enter
  k_steps
  rename Fr h₀ L _ m => kF
  rename News h₀ L _ _ => kN
  exact ret _ _ _ _ _ _ _ _ _ _ kF kN l1' l2'
theorem c_mat4 {t1 t2 : Tok} (B : Below A₀ base outer h₀) (F : Fr h₀ L s.heap m) (X : (Mine.hd0.heap_1 w.params).In h₀) (N : News h₀ L s.heap news) (T : Top VW LS mean mg mb h₀) (hk : cs.kind = .function) (hd : dp + 25 < recursionLimit) (hu : un + 250 < cLine) {a da : Addr} {qa : Rat} {ka1 ka2 ka3 ka4 : Tok} (ha : (a, instObj 155 da) ∈ news) (hda : (da, decObj w qa ka1 ka2 ka3 ka4) ∈ news) {d dd : Addr} {qd : Rat} {kd1 kd2 kd3 kd4 : Tok} (hd : (d, instObj 155 dd) ∈ news) (hdd : (dd, decObj w qd kd1 kd2 kd3 kd4) ∈ news) {e de : Addr} {qe : Rat} {ke1 ke2 ke3 ke4 : Tok} (he : (e, instObj 155 de) ∈ news) (hde : (de, decObj w qe ke1 ke2 ke3 ke4) ∈ news) {f df : Addr} {qf : Rat} {kf1 kf2 kf3 kf4 : Tok} (hf : (f, instObj 155 df) ∈ news) (hdf : (df, decObj w qf kf1 kf2 kf3 kf4) ∈ news)
    (ret : ∀ x dx b db c dc k1 k2 k3 k4 k5 k6 kb1 kb2 kb3 kb4 kc1 kc2 kc3 kc4 h' tk', Fr h₀ L h' m → News h₀ L h' ((x, instObj 279 dx) :: (dx, matObj w a b c d e f k1 k2 k3 k4 k5 k6) :: (b, instObj 155 db) :: (db, decObj w ((0 : Int) : Rat) kb1 kb2 kb3 kb4) :: (c, instObj 155 dc) :: (dc, decObj w ((0 : Int) : Rat) kc1 kc2 kc3 kc4) :: news) → DecQ ((0 : Int) : Rat) 3 → Q (.ref x) { s with heap := h', toks := tk' }) : wpAny (model PySem.Challenge.rw_qz0079_01.row.prog w) (ktrTop dp un gd cn cs L a₀ ccd cl outer) (call (.ref 279) [.ref a, .int 0 t1, .int 0 t2, .ref d, .ref e, .ref f]) Q E s := by
  have z0 : Bnd 0 3 := Bnd.small (by omega) (by omega)
  revert X; k_fill; intro X
  w_on
  k_dflt (refine' call_cls ?k1 ?k2 ?k3 ?k4 ?k5 ?k6 ?_; (case k1 => k_asm); (case k2 => k_asm); (case k3 => k_asm); (case k4 => k_is); (case k5 => k_is); (case k6 => k_is); k_whole; intro x' d' h' F' N' l1 l2; have l1' := l1; have l2' := l2; replace l1' := allLt_of l1'; (try k_lt l1); (try k_lt2 l2); (try k_sweep))
  k_dflt ktr_enter
  k_steps
  rename Fr h₀ L _ m => kF
  rename News h₀ L _ _ => kN
  exact ret _ _ _ _ _ _ _ _ _ _ _ _ _ _ _ _ _ _ _ _ _ _ kF (cb_drop kN (by walk_at "c sub")) (by with_reducible assumption)
theorem c_mati {a b c d e f : Int} {ta tb tc td te tf : Tok} {n : Nat} (B : Below A₀ base outer h₀) (F : Fr h₀ L s.heap m) (X : (Mine.hd0.heap_1 w.params).In h₀) (N : News h₀ L s.heap news) (T : Top VW LS mean mg mb h₀) (hk : cs.kind = .function) (hd : dp + 25 < recursionLimit) (hu : un + 250 < cLine) (ba : Bnd a n) (bb : Bnd b n) (bc : Bnd c n) (bd : Bnd d n) (be : Bnd e n) (bf : Bnd f n)
    (ret : RetMat w h₀ L m news s Q (a : Rat) (b : Rat) (c : Rat) (d : Rat) (e : Rat) (f : Rat) n) : wpAny (model PySem.Challenge.rw_qz0079_01.row.prog w) (ktrTop dp un gd cn cs L a₀ ccd cl outer) (call (.ref 279) [.int a ta, .int b tb, .int c tc, .int d td, .int e te, .int f tf]) Q E s := by
  revert X; k_fill; intro X
  w_on
  k_dflt (refine' call_cls ?k1 ?k2 ?k3 ?k4 ?k5 ?k6 ?_; (case k1 => k_asm); (case k2 => k_asm); (case k3 => k_asm); (case k4 => k_is); (case k5 => k_is); (case k6 => k_is); k_whole; intro x' d' h' F' N' l1 l2; have l1' := l1; have l2' := l2; replace l1' := allLt_of l1'; (try k_lt l1); (try k_lt2 l2); (try k_sweep))
  k_dflt ktr_enter
  k_steps
  rename Fr h₀ L _ m => kF
  rename News h₀ L _ _ => kN
  refine ret _ _ _ _ _ _ _ _ _ _ _ _ _ _ _ _ _ _ _ _ _ _ _ _ _ _ _ _ _ _ _ _ _ _ _ _ _ _ _ _ _ _ _ _ _ _ kF (cb_drop kN (by walk_at "c sub")) ?_ (by with_reducible assumption) (by with_reducible assumption) (by with_reducible assumption) (by with_reducible assumption) (by with_reducible assumption) (by with_reducible assumption)
  simp only [Fresh, List.forall_mem_cons, List.not_mem_nil, false_implies, implies_true, and_true]
  (repeat' refine And.intro ?_ ?_) <;> first | walk_at "c fr" | tbn_find | exact tbn_up (by omega) l1'
end
end PartC5
section PartC6
theorem lines_C6_1 : True := by
  k_with_none
  k_with "c mem" =>
    first | ((with_reducible refine' mem_here ?z85zh9); (case z85zh9 => exact rfl)) | ((with_reducible refine' mem_nth 1 ?z85zh9); (case z85zh9 => exact rfl)) | ((with_reducible refine' mem_nth 2 ?z85zh9); (case z85zh9 => exact rfl)) | ((with_reducible refine' mem_nth 3 ?z85zh9); (case z85zh9 => exact rfl)) | ((with_reducible refine' mem_nth 4 ?z85zh9); (case z85zh9 => exact rfl)) | ((with_reducible refine' mem_nth 5 ?z85zh9); (case z85zh9 => exact rfl)) | ((with_reducible refine' mem_nth 6 ?z85zh9); (case z85zh9 => exact rfl)) | ((with_reducible refine' mem_nth 7 ?z85zh9); (case z85zh9 => exact rfl)) | ((with_reducible refine' mem_nth 8 ?z85zh9); (case z85zh9 => exact rfl)) | ((with_reducible refine' mem_nth 9 ?z85zh9); (case z85zh9 => exact rfl)) | ((with_reducible refine' mem_skip ?_); walk_at "c mem") | (with_reducible exact List.mem_append_left _ (by with_reducible assumption)) | ktr_member | ((with_reducible refine' List.mem_cons_of_mem _ ?_); walk_at "c mem") | ((with_reducible refine' List.mem_append_right _ ?_); walk_at "c mem")
  k_with "c room" =>
    with_reducible first | assumption | exact room1 (by assumption) rfl | exact room2 (by assumption) rfl | exact room3 (by assumption) rfl | exact room4 (by assumption) rfl
  k_with "c le" =>
    with_reducible first | assumption | exact Nat.le_trans (by assumption) (by decide)
  k_with "c lt1" =>
    with_reducible first | assumption | exact cj0 | exact cj1 | exact cj2 | exact cj3 | exact cj4 | exact cj5 | exact cj6 | exact cj7 | exact cj8 | exact cj9 | exact cj10 | exact cj11 | exact cj12 | exact cj13 | exact cj14 | exact cj15 | exact cj16 | exact cj17 | exact cj18 | exact cj19 | exact cj20 | exact cj21 | exact cj22 | exact cj23 | exact And.right (by with_reducible assumption) | exact And.right (And.right (by with_reducible assumption)) | exact And.right (And.right (And.right (by with_reducible assumption))) | exact And.right (And.right (And.right (And.right (by with_reducible assumption))))
  k_with "c lt2" =>
    ((with_reducible refine' Nat.lt_trans ?z89za9 ?z89zb9); (case z89zb9 => with_reducible assumption); (case z89za9 => walk_at "c lt1"))
  k_with "c lt" =>
    first | walk_at "c lt1" | walk_at "c lt2"
  k_with "c up3" =>
    with_reducible first | exact abv3 (by assumption) | exact abv3_1 (by assumption) | exact abv3_2 (by assumption) | exact abv3_3 (by assumption) | exact abv3_4 (by assumption) | (refine' Abv3.tr ?z91za9 ?z91zb9; (case z91za9 => assumption); (case z91zb9 => walk_at "c up3"))
  k_with "c ne" =>
    first | with_reducible (first | assumption | exact And.left (by assumption) | exact Ne.symm (And.left (by assumption)) | exact And.left (And.right (by assumption)) | exact Ne.symm (And.left (And.right (by assumption))) | exact And.right (And.right (by assumption)) | exact Ne.symm (And.right (And.right (by assumption))) | exact neq_lt (by assumption) | exact neq_gt (by assumption) | exact nl0 | exact nr0 | exact nl1 | exact nr1 | exact nl2 | exact nr2 | exact nl3 | exact nr3 | exact nl4 | exact nr4 | exact nl5 | exact nr5 | exact nl6 | exact nr6 | exact nl7 | exact nr7 | exact nl8 | exact nr8 | exact nl9 | exact nr9 | exact nl10 | exact nr10 | exact nl11 | exact nr11 | exact nl12 | exact nr12 | exact nl13 | exact nr13 | exact nl14 | exact nr14 | exact nl15 | exact nr15 | exact nl16 | exact nr16 | exact nl17 | exact nr17 | exact nl18 | exact nr18 | exact nl19 | exact nr19 | exact nl20 | exact nr20 | exact nl21 | exact nr21 | exact nl22 | exact nr22 | exact nl23 | exact nr23) | ((with_reducible refine' neq_lt ?z92zz9); (case z92zz9 => walk_at "c lt2")) | ((with_reducible refine' neq_gt ?z92zz9); (case z92zz9 => walk_at "c lt2")) | ((try dsimp only); omega)
  k_with "c dp" =>
    ((try simp only [depth_under_make, depth_under_kw, depth_in1, depth_deeper, depth_caller]); (try dsimp only [ktrTop]); first | walk_at "c room" | omega | decide)
  k_with "c un" =>
    ((try simp only [units_make, units_in1, units_deeper, Around.mark_units, units_caller]); (try dsimp only [ktrTop]); first | walk_at "c room" | omega | decide)
  k_with "c sub" =>
    first | (refine List.forall_mem_cons.mpr ⟨?z95za, ?z95zb⟩; (case z95za => walk_at "c mem"); (case z95zb => walk_at "c sub")) | exact List.forall_mem_nil _ | (intro p9 h9; (repeat (first | exact h9 | refine List.mem_cons_of_mem _ ?_ | refine List.mem_append_left _ ?_)))
  k_with "c bnd" =>
    with_reducible (first | assumption | exact Bnd.pow _ | (refine' Bnd.fdiv ?z96za; (case z96za => walk_at "c bnd")) | (exact Bnd.mul (by walk_at "c bnd") (by walk_at "c bnd")) | (exact Bnd.add1 (by walk_at "c bnd") (by walk_at "c bnd")) | (exact Bnd.sub1 (by walk_at "c bnd") (by walk_at "c bnd")) | (exact Bnd.add (by walk_at "c bnd") (by walk_at "c bnd")) | (exact Bnd.sub (by walk_at "c bnd") (by walk_at "c bnd")))
  k_with "c ar" =>
    first | assumption | decide | omega | (split <;> omega)
  k_with "c mul" =>
    exact mulOk_bnd (by walk_at "c bnd") (by walk_at "c bnd") (by walk_at "c ar") (by walk_at "c ar")
  k_with "binaryOp Pow int int" =>
    ((with_reducible refine pow_int_small ?z99zkb1 ?z99zkb2 ?z99zkb3 ?_); (case z99zkb1 => walk_at "c ar"); (case z99zkb2 => walk_at "c ar"); (case z99zkb3 => decide))
  k_with "call ref" =>
    (k_here; (with_reducible show wpAny _ _ (call (Prod.fst _) (_ ++ _)) _ _ _); dsimp only [List.nil_append, List.cons_append])
  k_with "subscriptTail" =>
    (k_here; (with_reducible show wpAny _ _ (subscriptTail _ _ (Value.ref _) (Value.int _ _)) _ _ _); k_dflt (first
    | (refine' item_tupleT ?z101zt ?z101za ?z101zb ?z101zc ?z101zd ?_; (case z101zt => exact News.isTup (by k_asm) (by k_mem)); (case z101za => decide); (case z101zb => decide); (case z101zc => exact rfl); (case z101zd => exact rfl); k_whole)
    | (refine' c_item ?z101zN ?z101zm ?z101za ?z101zb ?z101zc ?_ ?z101zz; (case z101zN => k_asm); (case z101zm => k_mem); (case z101za => decide); (case z101zb => decide); (case z101zc => exact rfl); (case z101zz => with_unfolding_all rfl); k_whole)))
  k_with "subscriptTail Name Constant ref int" =>
    (k_here; (with_reducible show wpAny _ _ (subscriptTail _ _ (Value.ref _) (Value.int _ _)) _ _ _); k_dflt (first
    | (refine' item_tupleT ?z102zt ?z102za ?z102zb ?z102zc ?z102zd ?_; (case z102zt => exact News.isTup (by k_asm) (by k_mem)); (case z102za => decide); (case z102zb => decide); (case z102zc => exact rfl); (case z102zd => exact rfl); k_whole)
    | (refine' c_item ?z102zN ?z102zm ?z102za ?z102zb ?z102zc ?_ ?z102zz; (case z102zN => k_asm); (case z102zm => k_mem); (case z102za => decide); (case z102zb => decide); (case z102zc => exact rfl); (case z102zz => with_unfolding_all rfl); k_whole)))
  trivial
section
variable {w : World} {mean : ExcName → Option Value} {mg mb : PySem.Str → Option Value} {dp un : Nat} {gd : Option (List Code)} {cn : PySem.Str} {cs : Scope} {a₀ : Addr} {ccd : Value} {cl : List (PySem.Str × Addr)} {outer : List Env}
  {A₀ : Around} {base h₀ : Heap} {L : Addr} {m : PySem.Str → Option Value} {s : Shared} {news : List (Addr × Obj)} {Q E : Value → Shared → Prop}
theorem lines_C6_2 : True := by
  k_with "call ref" =>
    (k_here; (with_reducible show wpAny _ _ (call (Value.ref 187) [Value.int _ _]) _ _ _); k_dflt (refine' c_of_int ?z103zcB ?z103zcF ?z103zcX ?z103zcN ?z103zcT ?z103zcK ?z103zcD ?z103zcU ?z103zp0 ?_; (case z103zcB => k_asm); (case z103zcF => k_asm); (case z103zcX => k_asm); (case z103zcN => k_asm); (case z103zcT => k_asm); (case z103zcK => first | exact rfl | assumption); (case z103zcD => walk_at "c dp"); (case z103zcU => walk_at "c un"); (case z103zp0 => walk_at "c bnd"); intro x' d' q1' q2' q3' q4' h' tk' F' N' l1 l2 hq'; (try simp only [AllLt, and_true] at l1); (try k_lt2 l2); (try k_sweep); (try dsimp only); (try k_fold)))
  k_with "call ref" =>
    (k_here; (with_reducible show wpAny _ _ (call (Value.ref 187) [Value.ref _]) _ _ _); k_dflt (refine' c_of_dec ?z104zcB ?z104zcF ?z104zcX ?z104zcN ?z104zcT ?z104zcK ?z104zcD ?z104zcU ?z104zp0 ?z104zp1 ?_; (case z104zcB => k_asm); (case z104zcF => k_asm); (case z104zcX => k_asm); (case z104zcN => k_asm); (case z104zcT => k_asm); (case z104zcK => first | exact rfl | assumption); (case z104zcD => walk_at "c dp"); (case z104zcU => walk_at "c un"); (case z104zp0 => k_mem); (case z104zp1 => k_mem); intro h' tk' F' N'; (try k_sweep); (try dsimp only); (try k_fold)))
  k_with "call ref" =>
    (k_here; (with_reducible show wpAny _ _ (call (Value.ref 82) [Value.ref _, Value.ref _]) _ _ _); k_dflt (refine' c_plus ?z105zcB ?z105zcF ?z105zcX ?z105zcN ?z105zcT ?z105zcK ?z105zcD ?z105zcU ?z105zp0 ?z105zp1 ?z105zp2 ?z105zp3 ?z105zp4 ?z105zp5 ?z105zp6 ?z105zp7 ?_; (case z105zcB => k_asm); (case z105zcF => k_asm); (case z105zcX => k_asm); (case z105zcN => k_asm); (case z105zcT => k_asm); (case z105zcK => first | exact rfl | assumption); (case z105zcD => walk_at "c dp"); (case z105zcU => walk_at "c un"); (case z105zp0 => k_mem); (case z105zp1 => k_mem); (case z105zp2 => with_reducible assumption); (case z105zp3 => k_mem); (case z105zp4 => k_mem); (case z105zp5 => with_reducible assumption); (case z105zp6 => first | walk_at "c le" | decide | omega); (case z105zp7 => first | walk_at "c le" | decide | omega); intro x' d' q1' q2' q3' q4' h' tk' F' N' l1 l2 hq'; (try simp only [AllLt, and_true] at l1); (try k_lt2 l2); (try k_sweep); (try dsimp only); (try k_fold)))
  k_with "call ref" =>
    (k_here; (with_reducible show wpAny _ _ (call (Value.ref 89) [Value.ref _, Value.ref _]) _ _ _); k_dflt (refine' c_minus ?z106zcB ?z106zcF ?z106zcX ?z106zcN ?z106zcT ?z106zcK ?z106zcD ?z106zcU ?z106zp0 ?z106zp1 ?z106zp2 ?z106zp3 ?z106zp4 ?z106zp5 ?z106zp6 ?z106zp7 ?_; (case z106zcB => k_asm); (case z106zcF => k_asm); (case z106zcX => k_asm); (case z106zcN => k_asm); (case z106zcT => k_asm); (case z106zcK => first | exact rfl | assumption); (case z106zcD => walk_at "c dp"); (case z106zcU => walk_at "c un"); (case z106zp0 => k_mem); (case z106zp1 => k_mem); (case z106zp2 => with_reducible assumption); (case z106zp3 => k_mem); (case z106zp4 => k_mem); (case z106zp5 => with_reducible assumption); (case z106zp6 => first | walk_at "c le" | decide | omega); (case z106zp7 => first | walk_at "c le" | decide | omega); intro x' d' q1' q2' q3' q4' h' tk' F' N' l1 l2 hq'; (try simp only [AllLt, and_true] at l1); (try k_lt2 l2); (try k_sweep); (try dsimp only); (try k_fold)))
  k_with "call ref" =>
    (k_here; (with_reducible show wpAny _ _ (call (Value.ref 96) [Value.ref _, Value.ref _]) _ _ _); k_dflt (refine' c_times ?z107zcB ?z107zcF ?z107zcX ?z107zcN ?z107zcT ?z107zcK ?z107zcD ?z107zcU ?z107zp0 ?z107zp1 ?z107zp2 ?z107zp3 ?z107zp4 ?z107zp5 ?z107zp6 ?z107zp7 ?_; (case z107zcB => k_asm); (case z107zcF => k_asm); (case z107zcX => k_asm); (case z107zcN => k_asm); (case z107zcT => k_asm); (case z107zcK => first | exact rfl | assumption); (case z107zcD => walk_at "c dp"); (case z107zcU => walk_at "c un"); (case z107zp0 => k_mem); (case z107zp1 => k_mem); (case z107zp2 => with_reducible assumption); (case z107zp3 => k_mem); (case z107zp4 => k_mem); (case z107zp5 => with_reducible assumption); (case z107zp6 => first | walk_at "c le" | decide | omega); (case z107zp7 => first | walk_at "c le" | decide | omega); intro x' d' q1' q2' q3' q4' h' tk' F' N' l1 l2 hq'; (try simp only [AllLt, and_true] at l1); (try k_lt2 l2); (try k_sweep); (try dsimp only); (try k_fold)))
  k_with "call ref" =>
    (k_here; (with_reducible show wpAny _ _ (call (Value.ref 110) [Value.ref _, Value.ref _]) _ _ _); k_dflt (refine' c_compared ?z108zcB ?z108zcF ?z108zcX ?z108zcN ?z108zcT ?z108zcK ?z108zcD ?z108zcU ?z108zp0 ?z108zp1 ?z108zp2 ?z108zp3 ?z108zp4 ?z108zp5 ?z108zp6 ?z108zp7 ?_; (case z108zcB => k_asm); (case z108zcF => k_asm); (case z108zcX => k_asm); (case z108zcN => k_asm); (case z108zcT => k_asm); (case z108zcK => first | exact rfl | assumption); (case z108zcD => walk_at "c dp"); (case z108zcU => walk_at "c un"); (case z108zp0 => k_mem); (case z108zp1 => k_mem); (case z108zp2 => with_reducible assumption); (case z108zp3 => k_mem); (case z108zp4 => k_mem); (case z108zp5 => with_reducible assumption); (case z108zp6 => first | walk_at "c le" | decide | omega); (case z108zp7 => first | walk_at "c le" | decide | omega); intro c' i1' h' tk' F' N' cC; (try k_sweep); (try dsimp only); (try k_fold)))
  k_with "call ref" =>
    (k_here; (with_reducible show wpAny _ _ (call (Value.ref 138) [Value.ref _]) _ _ _); k_dflt (refine' c_told ?z109zcB ?z109zcF ?z109zcX ?z109zcN ?z109zcT ?z109zcK ?z109zcD ?z109zcU ?z109zp0 ?z109zp1 ?z109zp2 ?_; (case z109zcB => k_asm); (case z109zcF => k_asm); (case z109zcX => k_asm); (case z109zcN => k_asm); (case z109zcT => k_asm); (case z109zcK => first | exact rfl | assumption); (case z109zcD => walk_at "c dp"); (case z109zcU => walk_at "c un"); (case z109zp0 => k_mem); (case z109zp1 => k_mem); (case z109zp2 => with_reducible assumption); intro t' i1' i2' h' tk' F' N' l1; (try simp only [AllLt, and_true] at l1); (try k_sweep); (try dsimp only); (try k_fold)))
  k_with "call ref" =>
    (k_here; (with_reducible show wpAny _ _ (call (Value.ref 279) [Value.ref _, Value.ref _, Value.ref _, Value.ref _, Value.ref _, Value.ref _]) _ _ _); k_dflt (refine' c_mat6 ?z110zcB ?z110zcF ?z110zcX ?z110zcN ?z110zcT ?z110zcK ?z110zcD ?z110zcU ?z110zp0 ?z110zp1 ?z110zp2 ?z110zp3 ?z110zp4 ?z110zp5 ?z110zp6 ?z110zp7 ?z110zp8 ?z110zp9 ?z110zp10 ?z110zp11 ?_; (case z110zcB => k_asm); (case z110zcF => k_asm); (case z110zcX => k_asm); (case z110zcN => k_asm); (case z110zcT => k_asm); (case z110zcK => first | exact rfl | assumption); (case z110zcD => walk_at "c dp"); (case z110zcU => walk_at "c un"); (case z110zp0 => k_mem); (case z110zp1 => k_mem); (case z110zp2 => k_mem); (case z110zp3 => k_mem); (case z110zp4 => k_mem); (case z110zp5 => k_mem); (case z110zp6 => k_mem); (case z110zp7 => k_mem); (case z110zp8 => k_mem); (case z110zp9 => k_mem); (case z110zp10 => k_mem); (case z110zp11 => k_mem); intro x' d' k1' k2' k3' k4' k5' k6' h' tk' F' N' l1 l2; (try simp only [AllLt, and_true] at l1); (try k_lt2 l2); (try k_sweep); (try dsimp only); (try k_fold)))
  k_with "call ref" =>
    (k_here; (with_reducible show wpAny _ _ (call (Value.ref 279) [Value.ref _, Value.int 0 _, Value.int 0 _, Value.ref _, Value.ref _, Value.ref _]) _ _ _); k_dflt (refine' c_mat4 ?z111zcB ?z111zcF ?z111zcX ?z111zcN ?z111zcT ?z111zcK ?z111zcD ?z111zcU ?z111zp0 ?z111zp1 ?z111zp2 ?z111zp3 ?z111zp4 ?z111zp5 ?z111zp6 ?z111zp7 ?_; (case z111zcB => k_asm); (case z111zcF => k_asm); (case z111zcX => k_asm); (case z111zcN => k_asm); (case z111zcT => k_asm); (case z111zcK => first | exact rfl | assumption); (case z111zcD => walk_at "c dp"); (case z111zcU => walk_at "c un"); (case z111zp0 => k_mem); (case z111zp1 => k_mem); (case z111zp2 => k_mem); (case z111zp3 => k_mem); (case z111zp4 => k_mem); (case z111zp5 => k_mem); (case z111zp6 => k_mem); (case z111zp7 => k_mem); intro x' d' xb' db' xc' dc' k1' k2' k3' k4' k5' k6' kb1' kb2' kb3' kb4' kc1' kc2' kc3' kc4' h' tk' F' N' hq'; (try k_sweep); (try dsimp only); (try k_fold)))
  k_with "call ref" =>
    (k_here; (with_reducible show wpAny _ _ (call (Value.ref 279) [Value.int _ _, Value.int _ _, Value.int _ _, Value.int _ _, Value.int _ _, Value.int _ _]) _ _ _); k_dflt (refine' c_mati ?z112zcB ?z112zcF ?z112zcX ?z112zcN ?z112zcT ?z112zcK ?z112zcD ?z112zcU ?z112zp0 ?z112zp1 ?z112zp2 ?z112zp3 ?z112zp4 ?z112zp5 ?_; (case z112zcB => k_asm); (case z112zcF => k_asm); (case z112zcX => k_asm); (case z112zcN => k_asm); (case z112zcT => k_asm); (case z112zcK => first | exact rfl | assumption); (case z112zcD => walk_at "c dp"); (case z112zcU => walk_at "c un"); (case z112zp0 => walk_at "c bnd"); (case z112zp1 => walk_at "c bnd"); (case z112zp2 => walk_at "c bnd"); (case z112zp3 => walk_at "c bnd"); (case z112zp4 => walk_at "c bnd"); (case z112zp5 => walk_at "c bnd"); intro x' d' k1' k2' k3' k4' k5' k6' a' da' ka1' ka2' ka3' ka4' b' db' kb1' kb2' kb3' kb4' c' dc' kc1' kc2' kc3' kc4' d' dd' kd1' kd2' kd3' kd4' e' de' ke1' ke2' ke3' ke4' f' df' kf1' kf2' kf3' kf4' h' tk' F' N' l1 hqa' hqb' hqc' hqd' hqe' hqf'; (try k_sweep); (try dsimp only); (try k_fold)))
  k_with "c kept" =>
    first | exact Kept.done (by with_reducible assumption) | (refine' Kept.skipI ?z113zk9; (case z113zk9 => walk_at "c kept")) | (refine' Kept.skipC ?z113zk9; (case z113zk9 => walk_at "c kept")) | (refine' Kept.skipD ?z113zk9; (case z113zk9 => walk_at "c kept")) | ((with_reducible refine' Kept.takeF ?z113zu9 ?z113zk9); (case z113zu9 => with_reducible assumption); (case z113zk9 => walk_at "c kept")) | ((with_reducible refine' Kept.take3 ?z113zu9 ?z113zk9); (case z113zu9 => walk_at "c up3"); (case z113zk9 => walk_at "c kept")) | (refine' Kept.take ?z113za ?z113zb ?z113zc ?z113zk9; (case z113za => first | walk_at "c ne" | omega); (case z113zb => first | walk_at "c ne" | omega); (case z113zc => first | walk_at "c ne" | omega); (case z113zk9 => walk_at "c kept"))
  k_with "CompEnd" =>
    (k_dflt (refine' kept_end ?z114zF ?z114zN ?z114zk ?z114zi ?z114zc ?z114zd ?z114zs ?_; (case z114zF => k_asm); (case z114zN => k_asm); (case z114zk => with_reducible walk_at "c kept"); (case z114zi => k_mem); (case z114zc => k_mem); (case z114zd => k_mem); (case z114zs => first | exact True.intro | (refine' src_list ?z114zm1; (case z114zm1 => k_mem)) | exact Or.inl (by assumption))))
  k_with "CompRest" =>
    (with_unfolding_all first
    | (refine LCg.CompRest.succ ?_; intro v' I' oI' C' oC' D' m' h' tk' E' hv' hC' hx' F' N' off' ne'; (first | lcg_open hv' | (obtain ⟨t9', hv9'⟩ := hv'; subst hv9')))
    | refine LCg.CompRest.zero ?_)
  k_with "FinE" =>
    ((unfold LCg.FinE); intro D' h' tk' F' N' o1'; clear o1'; (try simp only [List.nil_append, List.cons_append] at N'); (try dsimp only))
  trivial

theorem c_parts (B : Below A₀ base outer h₀) (F : Fr h₀ L s.heap m) (X : (Mine.hd0.heap_1 w.params).In h₀) (N : News h₀ L s.heap news) (T : Top VW LS mean mg mb h₀) (hk : cs.kind = .function) (hd : dp + 10 < recursionLimit) (hu : un + 100 < cLine) {x dx : Addr} {xa xb xc xd xe xf : Addr} {dxa dxb dxc dxd dxe dxf : Addr} {qa qb qc qd qe qf : Rat} {n : Nat} {kx1 kx2 kx3 kx4 kx5 kx6 : Tok} {kxa1 kxa2 kxa3 kxa4 kxb1 kxb2 kxb3 kxb4 kxc1 kxc2 kxc3 kxc4 kxd1 kxd2 kxd3 kxd4 kxe1 kxe2 kxe3 kxe4 kxf1 kxf2 kxf3 kxf4 : Tok} (hx : (x, instObj 279 dx) ∈ news) (hdx : (dx, matObj w xa xb xc xd xe xf kx1 kx2 kx3 kx4 kx5 kx6) ∈ news) (hxa : (xa, instObj 155 dxa) ∈ news) (hdxa : (dxa, decObj w qa kxa1 kxa2 kxa3 kxa4) ∈ news) (hqxa : DecQ qa n) (hxb : (xb, instObj 155 dxb) ∈ news) (hdxb : (dxb, decObj w qb kxb1 kxb2 kxb3 kxb4) ∈ news) (hqxb : DecQ qb n) (hxc : (xc, instObj 155 dxc) ∈ news) (hdxc : (dxc, decObj w qc kxc1 kxc2 kxc3 kxc4) ∈ news) (hqxc : DecQ qc n) (hxd : (xd, instObj 155 dxd) ∈ news) (hdxd : (dxd, decObj w qd kxd1 kxd2 kxd3 kxd4) ∈ news) (hqxd : DecQ qd n) (hxe : (xe, instObj 155 dxe) ∈ news) (hdxe : (dxe, decObj w qe kxe1 kxe2 kxe3 kxe4) ∈ news) (hqxe : DecQ qe n) (hxf : (xf, instObj 155 dxf) ∈ news) (hdxf : (dxf, decObj w qf kxf1 kxf2 kxf3 kxf4) ∈ news) (hqxf : DecQ qf n) (ret : ∀ t n9 h' tk', Fr h₀ L h' m → News h₀ L h' ((t, listOf #[.ref xa, .ref xb, .ref xc, .ref xd, .ref xe, .ref xf] n9) :: news) → AllLt t news → Q (.ref t) { s with heap := h', toks := tk' }) : wpAny (model PySem.Challenge.rw_qz0079_01.row.prog w) (ktrTop dp un gd cn cs L a₀ ccd cl outer) (call (.ref 271) [.ref x]) Q E s := by
  revert X; k_fill; intro X
  w_on
  refine wpAny_call ?_
  k_dflt ktr_enter
  k_steps
  rename Fr h₀ L _ m => kF
  rename News h₀ L _ _ => kN
  exact ret _ _ _ _ kF kN (by first | tbn_find | exact allLt_of (by assumption))
theorem lines_C6_3 : True := by
  k_with "call ref" =>
    (k_here; (with_reducible show wpAny _ _ (call (Value.ref 271) [Value.ref _]) _ _ _); k_dflt (refine' c_parts ?z117zcB ?z117zcF ?z117zcX ?z117zcN ?z117zcT ?z117zcK ?z117zcD ?z117zcU ?z117zp0 ?z117zp1 ?z117zp2 ?z117zp3 ?z117zp4 ?z117zp5 ?z117zp6 ?z117zp7 ?z117zp8 ?z117zp9 ?z117zp10 ?z117zp11 ?z117zp12 ?z117zp13 ?z117zp14 ?z117zp15 ?z117zp16 ?z117zp17 ?z117zp18 ?z117zp19 ?_; (case z117zcB => k_asm); (case z117zcF => k_asm); (case z117zcX => k_asm); (case z117zcN => k_asm); (case z117zcT => k_asm); (case z117zcK => first | exact rfl | assumption); (case z117zcD => walk_at "c dp"); (case z117zcU => walk_at "c un"); (case z117zp0 => k_mem); (case z117zp1 => k_mem); (case z117zp2 => k_mem); (case z117zp3 => k_mem); (case z117zp4 => with_reducible assumption); (case z117zp5 => k_mem); (case z117zp6 => k_mem); (case z117zp7 => with_reducible assumption); (case z117zp8 => k_mem); (case z117zp9 => k_mem); (case z117zp10 => with_reducible assumption); (case z117zp11 => k_mem); (case z117zp12 => k_mem); (case z117zp13 => with_reducible assumption); (case z117zp14 => k_mem); (case z117zp15 => k_mem); (case z117zp16 => with_reducible assumption); (case z117zp17 => k_mem); (case z117zp18 => k_mem); (case z117zp19 => with_reducible assumption); intro t' n9' h' tk' F' N' l1; (try simp only [AllLt, and_true] at l1); (try k_sweep); (try dsimp only); (try k_fold)))
  trivial

theorem c_mtold (B : Below A₀ base outer h₀) (F : Fr h₀ L s.heap m) (X : (Mine.hd0.heap_1 w.params).In h₀) (N : News h₀ L s.heap news) (T : Top VW LS mean mg mb h₀) (hk : cs.kind = .function) (hd : dp + 25 < recursionLimit) (hu : un + 250 < cLine) {x dx : Addr} {xa xb xc xd xe xf : Addr} {dxa dxb dxc dxd dxe dxf : Addr} {qa qb qc qd qe qf : Rat} {n : Nat} {kx1 kx2 kx3 kx4 kx5 kx6 : Tok} {kxa1 kxa2 kxa3 kxa4 kxb1 kxb2 kxb3 kxb4 kxc1 kxc2 kxc3 kxc4 kxd1 kxd2 kxd3 kxd4 kxe1 kxe2 kxe3 kxe4 kxf1 kxf2 kxf3 kxf4 : Tok} (hx : (x, instObj 279 dx) ∈ news) (hdx : (dx, matObj w xa xb xc xd xe xf kx1 kx2 kx3 kx4 kx5 kx6) ∈ news) (hxa : (xa, instObj 155 dxa) ∈ news) (hdxa : (dxa, decObj w qa kxa1 kxa2 kxa3 kxa4) ∈ news) (hqxa : DecQ qa n) (hxb : (xb, instObj 155 dxb) ∈ news) (hdxb : (dxb, decObj w qb kxb1 kxb2 kxb3 kxb4) ∈ news) (hqxb : DecQ qb n) (hxc : (xc, instObj 155 dxc) ∈ news) (hdxc : (dxc, decObj w qc kxc1 kxc2 kxc3 kxc4) ∈ news) (hqxc : DecQ qc n) (hxd : (xd, instObj 155 dxd) ∈ news) (hdxd : (dxd, decObj w qd kxd1 kxd2 kxd3 kxd4) ∈ news) (hqxd : DecQ qd n) (hxe : (xe, instObj 155 dxe) ∈ news) (hdxe : (dxe, decObj w qe kxe1 kxe2 kxe3 kxe4) ∈ news) (hqxe : DecQ qe n) (hxf : (xf, instObj 155 dxf) ∈ news) (hdxf : (dxf, decObj w qf kxf1 kxf2 kxf3 kxf4) ∈ news) (hqxf : DecQ qf n) (ret : ∀ t ta ia9 ja9 tb ib9 jb9 tc ic9 jc9 td id9 jd9 te ie9 je9 tf if9 jf9 h' tk', Fr h₀ L h' m → News h₀ L h' ((t, ({ cls := .type "tuple", data := .seq #[.ref ta, .ref tb, .ref tc, .ref td, .ref te, .ref tf] } : Obj)) :: (ta, ({ cls := .type "tuple", data := .seq #[.int (dtop qa) ia9, .int (dplc qa) ja9] } : Obj)) :: (tb, ({ cls := .type "tuple", data := .seq #[.int (dtop qb) ib9, .int (dplc qb) jb9] } : Obj)) :: (tc, ({ cls := .type "tuple", data := .seq #[.int (dtop qc) ic9, .int (dplc qc) jc9] } : Obj)) :: (td, ({ cls := .type "tuple", data := .seq #[.int (dtop qd) id9, .int (dplc qd) jd9] } : Obj)) :: (te, ({ cls := .type "tuple", data := .seq #[.int (dtop qe) ie9, .int (dplc qe) je9] } : Obj)) :: (tf, ({ cls := .type "tuple", data := .seq #[.int (dtop qf) if9, .int (dplc qf) jf9] } : Obj)) :: news) → Q (.ref t) { s with heap := h', toks := tk' }) : wpAny (model PySem.Challenge.rw_qz0079_01.row.prog w) (ktrTop dp un gd cn cs L a₀ ccd cl outer) (call (.ref 276) [.ref x]) Q E s := by
  revert X; k_fill; intro X
  w_on
  refine wpAny_call ?_
  k_dflt ktr_enter
  k_steps
  rename Fr h₀ L _ m => kF
  rename News h₀ L _ _ => kN
  exact ret _ _ _ _ _ _ _ _ _ _ _ _ _ _ _ _ _ _ _ _ _ kF (cb_drop kN (by walk_at "c sub"))
theorem c_applied (B : Below A₀ base outer h₀) (F : Fr h₀ L s.heap m) (X : (Mine.hd0.heap_1 w.params).In h₀) (N : News h₀ L s.heap news) (T : Top VW LS mean mg mb h₀) (hk : cs.kind = .function) (hd : dp + 25 < recursionLimit) (hu : un + 250 < cLine) {x dx : Addr} {xa xb xc xd xe xf : Addr} {dxa dxb dxc dxd dxe dxf : Addr} {qa qb qc qd qe qf : Rat} {n : Nat} {kx1 kx2 kx3 kx4 kx5 kx6 : Tok} {kxa1 kxa2 kxa3 kxa4 kxb1 kxb2 kxb3 kxb4 kxc1 kxc2 kxc3 kxc4 kxd1 kxd2 kxd3 kxd4 kxe1 kxe2 kxe3 kxe4 kxf1 kxf2 kxf3 kxf4 : Tok} (hx : (x, instObj 279 dx) ∈ news) (hdx : (dx, matObj w xa xb xc xd xe xf kx1 kx2 kx3 kx4 kx5 kx6) ∈ news) (hxa : (xa, instObj 155 dxa) ∈ news) (hdxa : (dxa, decObj w qa kxa1 kxa2 kxa3 kxa4) ∈ news) (hqxa : DecQ qa n) (hxb : (xb, instObj 155 dxb) ∈ news) (hdxb : (dxb, decObj w qb kxb1 kxb2 kxb3 kxb4) ∈ news) (hqxb : DecQ qb n) (hxc : (xc, instObj 155 dxc) ∈ news) (hdxc : (dxc, decObj w qc kxc1 kxc2 kxc3 kxc4) ∈ news) (hqxc : DecQ qc n) (hxd : (xd, instObj 155 dxd) ∈ news) (hdxd : (dxd, decObj w qd kxd1 kxd2 kxd3 kxd4) ∈ news) (hqxd : DecQ qd n) (hxe : (xe, instObj 155 dxe) ∈ news) (hdxe : (dxe, decObj w qe kxe1 kxe2 kxe3 kxe4) ∈ news) (hqxe : DecQ qe n) (hxf : (xf, instObj 155 dxf) ∈ news) (hdxf : (dxf, decObj w qf kxf1 kxf2 kxf3 kxf4) ∈ news) (hqxf : DecQ qf n) {y dy : Addr} {q : Rat} {k : Nat} {ky1 ky2 ky3 ky4 : Tok} (hy : (y, instObj 155 dy) ∈ news) (hdy : (dy, decObj w q ky1 ky2 ky3 ky4) ∈ news) (hq : DecQ q k) {z dz : Addr} {r : Rat} {l : Nat} {kz1 kz2 kz3 kz4 : Tok} (hz : (z, instObj 155 dz) ∈ news) (hdz : (dz, decObj w r kz1 kz2 kz3 kz4) ∈ news) (hr : DecQ r l) (hn : n ≤ 300) (hk1 : k ≤ 100) (hl1 : l ≤ 100)
    (ret : ∀ t u du v dv ku1 ku2 ku3 ku4 kv1 kv2 kv3 kv4 h' tk', Fr h₀ L h' m → News h₀ L h' ((t, ({ cls := .type "tuple", data := .seq #[.ref u, .ref v] } : Obj)) :: (u, instObj 155 du) :: (du, decObj w (qa * q + qc * r + qe) ku1 ku2 ku3 ku4) :: (v, instObj 155 dv) :: (dv, decObj w (qb * q + qd * r + qf) kv1 kv2 kv3 kv4) :: news) →
      AllLt du news → @LT.lt Nat _ du u → @LT.lt Nat _ u dv → @LT.lt Nat _ dv v → @LT.lt Nat _ v t → DecQ (qa * q + qc * r + qe) (3 * n + k + l + 2) → DecQ (qb * q + qd * r + qf) (3 * n + k + l + 2) → Q (.ref t) { s with heap := h', toks := tk' }) : wpAny (model PySem.Challenge.rw_qz0079_01.row.prog w) (ktrTop dp un gd cn cs L a₀ ccd cl outer) (call (.ref 257) [.ref x, .ref y, .ref z]) Q E s := by
  revert X; k_fill; intro X
  w_on
  refine wpAny_call ?_
  k_dflt ktr_enter
  k_steps
  rename Fr h₀ L _ m => kF
  rename News h₀ L _ _ => kN
  refine ret _ _ _ _ _ _ _ _ _ _ _ _ _ _ _ kF (cb_drop kN (by walk_at "c sub")) (by first | tbn_find | exact allLt_of (by assumption)) (by omega) (by omega) (by omega) (by omega) (DecQ.mono (by with_reducible assumption) (by omega)) (DecQ.mono (by with_reducible assumption) (by omega))

end
end PartC6
section PartC7
theorem lines_C7_1 : True := by
  k_with_none
  k_with "c mem" =>
    first | ((with_reducible refine' mem_here ?z118zh9); (case z118zh9 => exact rfl)) | ((with_reducible refine' mem_nth 1 ?z118zh9); (case z118zh9 => exact rfl)) | ((with_reducible refine' mem_nth 2 ?z118zh9); (case z118zh9 => exact rfl)) | ((with_reducible refine' mem_nth 3 ?z118zh9); (case z118zh9 => exact rfl)) | ((with_reducible refine' mem_nth 4 ?z118zh9); (case z118zh9 => exact rfl)) | ((with_reducible refine' mem_nth 5 ?z118zh9); (case z118zh9 => exact rfl)) | ((with_reducible refine' mem_nth 6 ?z118zh9); (case z118zh9 => exact rfl)) | ((with_reducible refine' mem_nth 7 ?z118zh9); (case z118zh9 => exact rfl)) | ((with_reducible refine' mem_nth 8 ?z118zh9); (case z118zh9 => exact rfl)) | ((with_reducible refine' mem_nth 9 ?z118zh9); (case z118zh9 => exact rfl)) | ((with_reducible refine' mem_skip ?_); walk_at "c mem") | (with_reducible exact List.mem_append_left _ (by with_reducible assumption)) | ktr_member | ((with_reducible refine' List.mem_cons_of_mem _ ?_); walk_at "c mem") | ((with_reducible refine' List.mem_append_right _ ?_); walk_at "c mem")
  k_with "c room" =>
    with_reducible first | assumption | exact room1 (by assumption) rfl | exact room2 (by assumption) rfl | exact room3 (by assumption) rfl | exact room4 (by assumption) rfl
  k_with "c le" =>
    with_reducible first | assumption | exact Nat.le_trans (by assumption) (by decide)
  k_with "c lt1" =>
    with_reducible first | assumption | exact cj0 | exact cj1 | exact cj2 | exact cj3 | exact cj4 | exact cj5 | exact cj6 | exact cj7 | exact cj8 | exact cj9 | exact cj10 | exact cj11 | exact cj12 | exact cj13 | exact cj14 | exact cj15 | exact cj16 | exact cj17 | exact cj18 | exact cj19 | exact cj20 | exact cj21 | exact cj22 | exact cj23 | exact And.right (by with_reducible assumption) | exact And.right (And.right (by with_reducible assumption)) | exact And.right (And.right (And.right (by with_reducible assumption))) | exact And.right (And.right (And.right (And.right (by with_reducible assumption))))
  k_with "c lt2" =>
    ((with_reducible refine' Nat.lt_trans ?z122za9 ?z122zb9); (case z122zb9 => with_reducible assumption); (case z122za9 => walk_at "c lt1"))
  k_with "c lt" =>
    first | walk_at "c lt1" | walk_at "c lt2"
  k_with "c up3" =>
    with_reducible first | exact abv3 (by assumption) | exact abv3_1 (by assumption) | exact abv3_2 (by assumption) | exact abv3_3 (by assumption) | exact abv3_4 (by assumption) | (refine' Abv3.tr ?z124za9 ?z124zb9; (case z124za9 => assumption); (case z124zb9 => walk_at "c up3"))
  k_with "c ne" =>
    first | with_reducible (first | assumption | exact And.left (by assumption) | exact Ne.symm (And.left (by assumption)) | exact And.left (And.right (by assumption)) | exact Ne.symm (And.left (And.right (by assumption))) | exact And.right (And.right (by assumption)) | exact Ne.symm (And.right (And.right (by assumption))) | exact neq_lt (by assumption) | exact neq_gt (by assumption) | exact nl0 | exact nr0 | exact nl1 | exact nr1 | exact nl2 | exact nr2 | exact nl3 | exact nr3 | exact nl4 | exact nr4 | exact nl5 | exact nr5 | exact nl6 | exact nr6 | exact nl7 | exact nr7 | exact nl8 | exact nr8 | exact nl9 | exact nr9 | exact nl10 | exact nr10 | exact nl11 | exact nr11 | exact nl12 | exact nr12 | exact nl13 | exact nr13 | exact nl14 | exact nr14 | exact nl15 | exact nr15 | exact nl16 | exact nr16 | exact nl17 | exact nr17 | exact nl18 | exact nr18 | exact nl19 | exact nr19 | exact nl20 | exact nr20 | exact nl21 | exact nr21 | exact nl22 | exact nr22 | exact nl23 | exact nr23) | ((with_reducible refine' neq_lt ?z125zz9); (case z125zz9 => walk_at "c lt2")) | ((with_reducible refine' neq_gt ?z125zz9); (case z125zz9 => walk_at "c lt2")) | ((try dsimp only); omega)
  k_with "c dp" =>
    ((try simp only [depth_under_make, depth_under_kw, depth_in1, depth_deeper, depth_caller]); (try dsimp only [ktrTop]); first | walk_at "c room" | omega | decide)
  k_with "c un" =>
    ((try simp only [units_make, units_in1, units_deeper, Around.mark_units, units_caller]); (try dsimp only [ktrTop]); first | walk_at "c room" | omega | decide)
  k_with "c sub" =>
    first | (refine List.forall_mem_cons.mpr ⟨?z128za, ?z128zb⟩; (case z128za => walk_at "c mem"); (case z128zb => walk_at "c sub")) | exact List.forall_mem_nil _ | (intro p9 h9; (repeat (first | exact h9 | refine List.mem_cons_of_mem _ ?_ | refine List.mem_append_left _ ?_)))
  k_with "c bnd" =>
    with_reducible (first | assumption | exact Bnd.pow _ | (refine' Bnd.fdiv ?z129za; (case z129za => walk_at "c bnd")) | (exact Bnd.mul (by walk_at "c bnd") (by walk_at "c bnd")) | (exact Bnd.add1 (by walk_at "c bnd") (by walk_at "c bnd")) | (exact Bnd.sub1 (by walk_at "c bnd") (by walk_at "c bnd")) | (exact Bnd.add (by walk_at "c bnd") (by walk_at "c bnd")) | (exact Bnd.sub (by walk_at "c bnd") (by walk_at "c bnd")))
  k_with "c ar" =>
    first | assumption | decide | omega | (split <;> omega)
  k_with "c mul" =>
    exact mulOk_bnd (by walk_at "c bnd") (by walk_at "c bnd") (by walk_at "c ar") (by walk_at "c ar")
  k_with "binaryOp Pow int int" =>
    ((with_reducible refine pow_int_small ?z132zkb1 ?z132zkb2 ?z132zkb3 ?_); (case z132zkb1 => walk_at "c ar"); (case z132zkb2 => walk_at "c ar"); (case z132zkb3 => decide))
  k_with "call ref" =>
    (k_here; (with_reducible show wpAny _ _ (call (Prod.fst _) (_ ++ _)) _ _ _); dsimp only [List.nil_append, List.cons_append])
  k_with "subscriptTail" =>
    (k_here; (with_reducible show wpAny _ _ (subscriptTail _ _ (Value.ref _) (Value.int _ _)) _ _ _); k_dflt (first
    | (refine' item_tupleT ?z134zt ?z134za ?z134zb ?z134zc ?z134zd ?_; (case z134zt => exact News.isTup (by k_asm) (by k_mem)); (case z134za => decide); (case z134zb => decide); (case z134zc => exact rfl); (case z134zd => exact rfl); k_whole)
    | (refine' c_item ?z134zN ?z134zm ?z134za ?z134zb ?z134zc ?_ ?z134zz; (case z134zN => k_asm); (case z134zm => k_mem); (case z134za => decide); (case z134zb => decide); (case z134zc => exact rfl); (case z134zz => with_unfolding_all rfl); k_whole)))
  k_with "subscriptTail Name Constant ref int" =>
    (k_here; (with_reducible show wpAny _ _ (subscriptTail _ _ (Value.ref _) (Value.int _ _)) _ _ _); k_dflt (first
    | (refine' item_tupleT ?z135zt ?z135za ?z135zb ?z135zc ?z135zd ?_; (case z135zt => exact News.isTup (by k_asm) (by k_mem)); (case z135za => decide); (case z135zb => decide); (case z135zc => exact rfl); (case z135zd => exact rfl); k_whole)
    | (refine' c_item ?z135zN ?z135zm ?z135za ?z135zb ?z135zc ?_ ?z135zz; (case z135zN => k_asm); (case z135zm => k_mem); (case z135za => decide); (case z135zb => decide); (case z135zc => exact rfl); (case z135zz => with_unfolding_all rfl); k_whole)))
  trivial
section
variable {w : World} {mean : ExcName → Option Value} {mg mb : PySem.Str → Option Value} {dp un : Nat} {gd : Option (List Code)} {cn : PySem.Str} {cs : Scope} {a₀ : Addr} {ccd : Value} {cl : List (PySem.Str × Addr)} {outer : List Env}
  {A₀ : Around} {base h₀ : Heap} {L : Addr} {m : PySem.Str → Option Value} {s : Shared} {news : List (Addr × Obj)} {Q E : Value → Shared → Prop}
theorem lines_C7_2 : True := by
  k_with "call ref" =>
    (k_here; (with_reducible show wpAny _ _ (call (Value.ref 187) [Value.int _ _]) _ _ _); k_dflt (refine' c_of_int ?z136zcB ?z136zcF ?z136zcX ?z136zcN ?z136zcT ?z136zcK ?z136zcD ?z136zcU ?z136zp0 ?_; (case z136zcB => k_asm); (case z136zcF => k_asm); (case z136zcX => k_asm); (case z136zcN => k_asm); (case z136zcT => k_asm); (case z136zcK => first | exact rfl | assumption); (case z136zcD => walk_at "c dp"); (case z136zcU => walk_at "c un"); (case z136zp0 => walk_at "c bnd"); intro x' d' q1' q2' q3' q4' h' tk' F' N' l1 l2 hq'; (try simp only [AllLt, and_true] at l1); (try k_lt2 l2); (try k_sweep); (try dsimp only); (try k_fold)))
  k_with "call ref" =>
    (k_here; (with_reducible show wpAny _ _ (call (Value.ref 187) [Value.ref _]) _ _ _); k_dflt (refine' c_of_dec ?z137zcB ?z137zcF ?z137zcX ?z137zcN ?z137zcT ?z137zcK ?z137zcD ?z137zcU ?z137zp0 ?z137zp1 ?_; (case z137zcB => k_asm); (case z137zcF => k_asm); (case z137zcX => k_asm); (case z137zcN => k_asm); (case z137zcT => k_asm); (case z137zcK => first | exact rfl | assumption); (case z137zcD => walk_at "c dp"); (case z137zcU => walk_at "c un"); (case z137zp0 => k_mem); (case z137zp1 => k_mem); intro h' tk' F' N'; (try k_sweep); (try dsimp only); (try k_fold)))
  k_with "call ref" =>
    (k_here; (with_reducible show wpAny _ _ (call (Value.ref 82) [Value.ref _, Value.ref _]) _ _ _); k_dflt (refine' c_plus ?z138zcB ?z138zcF ?z138zcX ?z138zcN ?z138zcT ?z138zcK ?z138zcD ?z138zcU ?z138zp0 ?z138zp1 ?z138zp2 ?z138zp3 ?z138zp4 ?z138zp5 ?z138zp6 ?z138zp7 ?_; (case z138zcB => k_asm); (case z138zcF => k_asm); (case z138zcX => k_asm); (case z138zcN => k_asm); (case z138zcT => k_asm); (case z138zcK => first | exact rfl | assumption); (case z138zcD => walk_at "c dp"); (case z138zcU => walk_at "c un"); (case z138zp0 => k_mem); (case z138zp1 => k_mem); (case z138zp2 => with_reducible assumption); (case z138zp3 => k_mem); (case z138zp4 => k_mem); (case z138zp5 => with_reducible assumption); (case z138zp6 => first | walk_at "c le" | decide | omega); (case z138zp7 => first | walk_at "c le" | decide | omega); intro x' d' q1' q2' q3' q4' h' tk' F' N' l1 l2 hq'; (try simp only [AllLt, and_true] at l1); (try k_lt2 l2); (try k_sweep); (try dsimp only); (try k_fold)))
  k_with "call ref" =>
    (k_here; (with_reducible show wpAny _ _ (call (Value.ref 89) [Value.ref _, Value.ref _]) _ _ _); k_dflt (refine' c_minus ?z139zcB ?z139zcF ?z139zcX ?z139zcN ?z139zcT ?z139zcK ?z139zcD ?z139zcU ?z139zp0 ?z139zp1 ?z139zp2 ?z139zp3 ?z139zp4 ?z139zp5 ?z139zp6 ?z139zp7 ?_; (case z139zcB => k_asm); (case z139zcF => k_asm); (case z139zcX => k_asm); (case z139zcN => k_asm); (case z139zcT => k_asm); (case z139zcK => first | exact rfl | assumption); (case z139zcD => walk_at "c dp"); (case z139zcU => walk_at "c un"); (case z139zp0 => k_mem); (case z139zp1 => k_mem); (case z139zp2 => with_reducible assumption); (case z139zp3 => k_mem); (case z139zp4 => k_mem); (case z139zp5 => with_reducible assumption); (case z139zp6 => first | walk_at "c le" | decide | omega); (case z139zp7 => first | walk_at "c le" | decide | omega); intro x' d' q1' q2' q3' q4' h' tk' F' N' l1 l2 hq'; (try simp only [AllLt, and_true] at l1); (try k_lt2 l2); (try k_sweep); (try dsimp only); (try k_fold)))
  k_with "call ref" =>
    (k_here; (with_reducible show wpAny _ _ (call (Value.ref 96) [Value.ref _, Value.ref _]) _ _ _); k_dflt (refine' c_times ?z140zcB ?z140zcF ?z140zcX ?z140zcN ?z140zcT ?z140zcK ?z140zcD ?z140zcU ?z140zp0 ?z140zp1 ?z140zp2 ?z140zp3 ?z140zp4 ?z140zp5 ?z140zp6 ?z140zp7 ?_; (case z140zcB => k_asm); (case z140zcF => k_asm); (case z140zcX => k_asm); (case z140zcN => k_asm); (case z140zcT => k_asm); (case z140zcK => first | exact rfl | assumption); (case z140zcD => walk_at "c dp"); (case z140zcU => walk_at "c un"); (case z140zp0 => k_mem); (case z140zp1 => k_mem); (case z140zp2 => with_reducible assumption); (case z140zp3 => k_mem); (case z140zp4 => k_mem); (case z140zp5 => with_reducible assumption); (case z140zp6 => first | walk_at "c le" | decide | omega); (case z140zp7 => first | walk_at "c le" | decide | omega); intro x' d' q1' q2' q3' q4' h' tk' F' N' l1 l2 hq'; (try simp only [AllLt, and_true] at l1); (try k_lt2 l2); (try k_sweep); (try dsimp only); (try k_fold)))
  k_with "call ref" =>
    (k_here; (with_reducible show wpAny _ _ (call (Value.ref 110) [Value.ref _, Value.ref _]) _ _ _); k_dflt (refine' c_compared ?z141zcB ?z141zcF ?z141zcX ?z141zcN ?z141zcT ?z141zcK ?z141zcD ?z141zcU ?z141zp0 ?z141zp1 ?z141zp2 ?z141zp3 ?z141zp4 ?z141zp5 ?z141zp6 ?z141zp7 ?_; (case z141zcB => k_asm); (case z141zcF => k_asm); (case z141zcX => k_asm); (case z141zcN => k_asm); (case z141zcT => k_asm); (case z141zcK => first | exact rfl | assumption); (case z141zcD => walk_at "c dp"); (case z141zcU => walk_at "c un"); (case z141zp0 => k_mem); (case z141zp1 => k_mem); (case z141zp2 => with_reducible assumption); (case z141zp3 => k_mem); (case z141zp4 => k_mem); (case z141zp5 => with_reducible assumption); (case z141zp6 => first | walk_at "c le" | decide | omega); (case z141zp7 => first | walk_at "c le" | decide | omega); intro c' i1' h' tk' F' N' cC; (try k_sweep); (try dsimp only); (try k_fold)))
  k_with "call ref" =>
    (k_here; (with_reducible show wpAny _ _ (call (Value.ref 138) [Value.ref _]) _ _ _); k_dflt (refine' c_told ?z142zcB ?z142zcF ?z142zcX ?z142zcN ?z142zcT ?z142zcK ?z142zcD ?z142zcU ?z142zp0 ?z142zp1 ?z142zp2 ?_; (case z142zcB => k_asm); (case z142zcF => k_asm); (case z142zcX => k_asm); (case z142zcN => k_asm); (case z142zcT => k_asm); (case z142zcK => first | exact rfl | assumption); (case z142zcD => walk_at "c dp"); (case z142zcU => walk_at "c un"); (case z142zp0 => k_mem); (case z142zp1 => k_mem); (case z142zp2 => with_reducible assumption); intro t' i1' i2' h' tk' F' N' l1; (try simp only [AllLt, and_true] at l1); (try k_sweep); (try dsimp only); (try k_fold)))
  k_with "call ref" =>
    (k_here; (with_reducible show wpAny _ _ (call (Value.ref 279) [Value.ref _, Value.ref _, Value.ref _, Value.ref _, Value.ref _, Value.ref _]) _ _ _); k_dflt (refine' c_mat6 ?z143zcB ?z143zcF ?z143zcX ?z143zcN ?z143zcT ?z143zcK ?z143zcD ?z143zcU ?z143zp0 ?z143zp1 ?z143zp2 ?z143zp3 ?z143zp4 ?z143zp5 ?z143zp6 ?z143zp7 ?z143zp8 ?z143zp9 ?z143zp10 ?z143zp11 ?_; (case z143zcB => k_asm); (case z143zcF => k_asm); (case z143zcX => k_asm); (case z143zcN => k_asm); (case z143zcT => k_asm); (case z143zcK => first | exact rfl | assumption); (case z143zcD => walk_at "c dp"); (case z143zcU => walk_at "c un"); (case z143zp0 => k_mem); (case z143zp1 => k_mem); (case z143zp2 => k_mem); (case z143zp3 => k_mem); (case z143zp4 => k_mem); (case z143zp5 => k_mem); (case z143zp6 => k_mem); (case z143zp7 => k_mem); (case z143zp8 => k_mem); (case z143zp9 => k_mem); (case z143zp10 => k_mem); (case z143zp11 => k_mem); intro x' d' k1' k2' k3' k4' k5' k6' h' tk' F' N' l1 l2; (try simp only [AllLt, and_true] at l1); (try k_lt2 l2); (try k_sweep); (try dsimp only); (try k_fold)))
  k_with "call ref" =>
    (k_here; (with_reducible show wpAny _ _ (call (Value.ref 279) [Value.ref _, Value.int 0 _, Value.int 0 _, Value.ref _, Value.ref _, Value.ref _]) _ _ _); k_dflt (refine' c_mat4 ?z144zcB ?z144zcF ?z144zcX ?z144zcN ?z144zcT ?z144zcK ?z144zcD ?z144zcU ?z144zp0 ?z144zp1 ?z144zp2 ?z144zp3 ?z144zp4 ?z144zp5 ?z144zp6 ?z144zp7 ?_; (case z144zcB => k_asm); (case z144zcF => k_asm); (case z144zcX => k_asm); (case z144zcN => k_asm); (case z144zcT => k_asm); (case z144zcK => first | exact rfl | assumption); (case z144zcD => walk_at "c dp"); (case z144zcU => walk_at "c un"); (case z144zp0 => k_mem); (case z144zp1 => k_mem); (case z144zp2 => k_mem); (case z144zp3 => k_mem); (case z144zp4 => k_mem); (case z144zp5 => k_mem); (case z144zp6 => k_mem); (case z144zp7 => k_mem); intro x' d' xb' db' xc' dc' k1' k2' k3' k4' k5' k6' kb1' kb2' kb3' kb4' kc1' kc2' kc3' kc4' h' tk' F' N' hq'; (try k_sweep); (try dsimp only); (try k_fold)))
  k_with "call ref" =>
    (k_here; (with_reducible show wpAny _ _ (call (Value.ref 279) [Value.int _ _, Value.int _ _, Value.int _ _, Value.int _ _, Value.int _ _, Value.int _ _]) _ _ _); k_dflt (refine' c_mati ?z145zcB ?z145zcF ?z145zcX ?z145zcN ?z145zcT ?z145zcK ?z145zcD ?z145zcU ?z145zp0 ?z145zp1 ?z145zp2 ?z145zp3 ?z145zp4 ?z145zp5 ?_; (case z145zcB => k_asm); (case z145zcF => k_asm); (case z145zcX => k_asm); (case z145zcN => k_asm); (case z145zcT => k_asm); (case z145zcK => first | exact rfl | assumption); (case z145zcD => walk_at "c dp"); (case z145zcU => walk_at "c un"); (case z145zp0 => walk_at "c bnd"); (case z145zp1 => walk_at "c bnd"); (case z145zp2 => walk_at "c bnd"); (case z145zp3 => walk_at "c bnd"); (case z145zp4 => walk_at "c bnd"); (case z145zp5 => walk_at "c bnd"); intro x' d' k1' k2' k3' k4' k5' k6' a' da' ka1' ka2' ka3' ka4' b' db' kb1' kb2' kb3' kb4' c' dc' kc1' kc2' kc3' kc4' d' dd' kd1' kd2' kd3' kd4' e' de' ke1' ke2' ke3' ke4' f' df' kf1' kf2' kf3' kf4' h' tk' F' N' l1 hqa' hqb' hqc' hqd' hqe' hqf'; (try k_sweep); (try dsimp only); (try k_fold)))
  k_with "call ref" =>
    (k_here; (with_reducible show wpAny _ _ (call (Value.ref 257) [Value.ref _, Value.ref _, Value.ref _]) _ _ _); k_dflt (refine' c_applied ?z146zcB ?z146zcF ?z146zcX ?z146zcN ?z146zcT ?z146zcK ?z146zcD ?z146zcU ?z146zp0 ?z146zp1 ?z146zp2 ?z146zp3 ?z146zp4 ?z146zp5 ?z146zp6 ?z146zp7 ?z146zp8 ?z146zp9 ?z146zp10 ?z146zp11 ?z146zp12 ?z146zp13 ?z146zp14 ?z146zp15 ?z146zp16 ?z146zp17 ?z146zp18 ?z146zp19 ?z146zp20 ?z146zp21 ?z146zp22 ?z146zp23 ?z146zp24 ?z146zp25 ?z146zp26 ?z146zp27 ?z146zp28 ?_; (case z146zcB => k_asm); (case z146zcF => k_asm); (case z146zcX => k_asm); (case z146zcN => k_asm); (case z146zcT => k_asm); (case z146zcK => first | exact rfl | assumption); (case z146zcD => walk_at "c dp"); (case z146zcU => walk_at "c un"); (case z146zp0 => k_mem); (case z146zp1 => k_mem); (case z146zp2 => k_mem); (case z146zp3 => k_mem); (case z146zp4 => with_reducible assumption); (case z146zp5 => k_mem); (case z146zp6 => k_mem); (case z146zp7 => with_reducible assumption); (case z146zp8 => k_mem); (case z146zp9 => k_mem); (case z146zp10 => with_reducible assumption); (case z146zp11 => k_mem); (case z146zp12 => k_mem); (case z146zp13 => with_reducible assumption); (case z146zp14 => k_mem); (case z146zp15 => k_mem); (case z146zp16 => with_reducible assumption); (case z146zp17 => k_mem); (case z146zp18 => k_mem); (case z146zp19 => with_reducible assumption); (case z146zp20 => k_mem); (case z146zp21 => k_mem); (case z146zp22 => with_reducible assumption); (case z146zp23 => k_mem); (case z146zp24 => k_mem); (case z146zp25 => with_reducible assumption); (case z146zp26 => first | walk_at "c le" | decide | omega); (case z146zp27 => first | walk_at "c le" | decide | omega); (case z146zp28 => first | walk_at "c le" | decide | omega); intro t' u' du' v' dv' ku1' ku2' ku3' ku4' kv1' kv2' kv3' kv4' h' tk' F' N' l1 l2 l3 l4 l5 hq1' hq2'; (try simp only [AllLt, and_true] at l1); (try k_sweep); (try dsimp only); (try k_fold)))
  k_with "c kept" =>
    first | exact Kept.done (by with_reducible assumption) | (refine' Kept.skipI ?z147zk9; (case z147zk9 => walk_at "c kept")) | (refine' Kept.skipC ?z147zk9; (case z147zk9 => walk_at "c kept")) | (refine' Kept.skipD ?z147zk9; (case z147zk9 => walk_at "c kept")) | ((with_reducible refine' Kept.takeF ?z147zu9 ?z147zk9); (case z147zu9 => with_reducible assumption); (case z147zk9 => walk_at "c kept")) | ((with_reducible refine' Kept.take3 ?z147zu9 ?z147zk9); (case z147zu9 => walk_at "c up3"); (case z147zk9 => walk_at "c kept")) | (refine' Kept.take ?z147za ?z147zb ?z147zc ?z147zk9; (case z147za => first | walk_at "c ne" | omega); (case z147zb => first | walk_at "c ne" | omega); (case z147zc => first | walk_at "c ne" | omega); (case z147zk9 => walk_at "c kept"))
  k_with "CompEnd" =>
    (k_dflt (refine' kept_end ?z148zF ?z148zN ?z148zk ?z148zi ?z148zc ?z148zd ?z148zs ?_; (case z148zF => k_asm); (case z148zN => k_asm); (case z148zk => with_reducible walk_at "c kept"); (case z148zi => k_mem); (case z148zc => k_mem); (case z148zd => k_mem); (case z148zs => first | exact True.intro | (refine' src_list ?z148zm1; (case z148zm1 => k_mem)) | exact Or.inl (by assumption))))
  k_with "CompRest" =>
    (with_unfolding_all first
    | (refine LCg.CompRest.succ ?_; intro v' I' oI' C' oC' D' m' h' tk' E' hv' hC' hx' F' N' off' ne'; (first | lcg_open hv' | (obtain ⟨t9', hv9'⟩ := hv'; subst hv9')))
    | refine LCg.CompRest.zero ?_)
  k_with "FinE" =>
    ((unfold LCg.FinE); intro D' h' tk' F' N' o1'; clear o1'; (try simp only [List.nil_append, List.cons_append] at N'); (try dsimp only))
  k_with "c fr" =>
    with_reducible first | assumption | exact cr1 (by assumption) | exact cr2 (by assumption) | exact cr3 (by assumption) | exact cr4 (by assumption) | exact cr5 (by assumption) | exact cr6 (by assumption) | exact cr7 (by assumption) | exact cr8 (by assumption) | exact cr9 (by assumption) | exact cr10 (by assumption) | exact cr11 (by assumption) | exact cr12 (by assumption) | exact cr13 (by assumption) | exact cr14 (by assumption) | exact cr15 (by assumption) | exact cr16 (by assumption) | exact cr17 (by assumption) | exact cr18 (by assumption) | exact cr19 (by assumption) | exact cr20 (by assumption) | exact cr21 (by assumption) | exact cr22 (by assumption) | exact cr23 (by assumption) | exact cr24 (by assumption) | exact cr25 (by assumption) | exact cr26 (by assumption) | exact cr27 (by assumption) | exact cr28 (by assumption) | exact cr29 (by assumption) | exact cr30 (by assumption) | exact cr31 (by assumption) | exact cr32 (by assumption) | exact cr33 (by assumption) | exact cr34 (by assumption) | exact cr35 (by assumption) | (refine' tbn_up ?z151za ?z151zb; (case z151za => assumption); (case z151zb => walk_at "c fr"))
  trivial

theorem c_mtimes (B : Below A₀ base outer h₀) (F : Fr h₀ L s.heap m) (X : (Mine.hd0.heap_1 w.params).In h₀) (N : News h₀ L s.heap news) (T : Top VW LS mean mg mb h₀) (hk : cs.kind = .function) (hd : dp + 35 < recursionLimit) (hu : un + 350 < cLine) {x dx : Addr} {xa xb xc xd xe xf : Addr} {dxa dxb dxc dxd dxe dxf : Addr} {qa qb qc qd qe qf : Rat} {n : Nat} {kx1 kx2 kx3 kx4 kx5 kx6 : Tok} {kxa1 kxa2 kxa3 kxa4 kxb1 kxb2 kxb3 kxb4 kxc1 kxc2 kxc3 kxc4 kxd1 kxd2 kxd3 kxd4 kxe1 kxe2 kxe3 kxe4 kxf1 kxf2 kxf3 kxf4 : Tok} (hx : (x, instObj 279 dx) ∈ news) (hdx : (dx, matObj w xa xb xc xd xe xf kx1 kx2 kx3 kx4 kx5 kx6) ∈ news) (hxa : (xa, instObj 155 dxa) ∈ news) (hdxa : (dxa, decObj w qa kxa1 kxa2 kxa3 kxa4) ∈ news) (hqxa : DecQ qa n) (hxb : (xb, instObj 155 dxb) ∈ news) (hdxb : (dxb, decObj w qb kxb1 kxb2 kxb3 kxb4) ∈ news) (hqxb : DecQ qb n) (hxc : (xc, instObj 155 dxc) ∈ news) (hdxc : (dxc, decObj w qc kxc1 kxc2 kxc3 kxc4) ∈ news) (hqxc : DecQ qc n) (hxd : (xd, instObj 155 dxd) ∈ news) (hdxd : (dxd, decObj w qd kxd1 kxd2 kxd3 kxd4) ∈ news) (hqxd : DecQ qd n) (hxe : (xe, instObj 155 dxe) ∈ news) (hdxe : (dxe, decObj w qe kxe1 kxe2 kxe3 kxe4) ∈ news) (hqxe : DecQ qe n) (hxf : (xf, instObj 155 dxf) ∈ news) (hdxf : (dxf, decObj w qf kxf1 kxf2 kxf3 kxf4) ∈ news) (hqxf : DecQ qf n) {y dy : Addr} {ya yb yc yd ye yf : Addr} {dya dyb dyc dyd dye dyf : Addr} {ra rb rc rd re rf : Rat} {k : Nat} {ky1 ky2 ky3 ky4 ky5 ky6 : Tok} {kya1 kya2 kya3 kya4 kyb1 kyb2 kyb3 kyb4 kyc1 kyc2 kyc3 kyc4 kyd1 kyd2 kyd3 kyd4 kye1 kye2 kye3 kye4 kyf1 kyf2 kyf3 kyf4 : Tok} (hy : (y, instObj 279 dy) ∈ news) (hdy : (dy, matObj w ya yb yc yd ye yf ky1 ky2 ky3 ky4 ky5 ky6) ∈ news) (hya : (ya, instObj 155 dya) ∈ news) (hdya : (dya, decObj w ra kya1 kya2 kya3 kya4) ∈ news) (hqya : DecQ ra k) (hyb : (yb, instObj 155 dyb) ∈ news) (hdyb : (dyb, decObj w rb kyb1 kyb2 kyb3 kyb4) ∈ news) (hqyb : DecQ rb k) (hyc : (yc, instObj 155 dyc) ∈ news) (hdyc : (dyc, decObj w rc kyc1 kyc2 kyc3 kyc4) ∈ news) (hqyc : DecQ rc k) (hyd : (yd, instObj 155 dyd) ∈ news) (hdyd : (dyd, decObj w rd kyd1 kyd2 kyd3 kyd4) ∈ news) (hqyd : DecQ rd k) (hye : (ye, instObj 155 dye) ∈ news) (hdye : (dye, decObj w re kye1 kye2 kye3 kye4) ∈ news) (hqye : DecQ re k) (hyf : (yf, instObj 155 dyf) ∈ news) (hdyf : (dyf, decObj w rf kyf1 kyf2 kyf3 kyf4) ∈ news) (hqyf : DecQ rf k) (hn : n ≤ 100) (hk1 : k ≤ 100) (ret : RetMat w h₀ L m news s Q (qa * ra + qb * rc) (qa * rb + qb * rd) (qc * ra + qd * rc) (qc * rb + qd * rd) (ra * qe + rc * qf + re) (rb * qe + rd * qf + rf) (3 * n + 3 * k + 3)) : wpAny (model PySem.Challenge.rw_qz0079_01.row.prog w) (ktrTop dp un gd cn cs L a₀ ccd cl outer) (call (.ref 250) [.ref x, .ref y]) Q E s := by
  revert X; k_fill; intro X
  w_on
  refine wpAny_call ?_
  k_dflt ktr_enter
  k_steps
  rename Fr h₀ L _ m => kF
  rename News h₀ L _ _ => kN
  refine ret _ _ _ _ _ _ _ _ _ _ _ _ _ _ _ _ _ _ _ _ _ _ _ _ _ _ _ _ _ _ _ _ _ _ _ _ _ _ _ _ _ _ _ _ _ _ kF (cb_drop kN (by walk_at "c sub")) ?_ (DecQ.mono (by with_reducible assumption) (by omega)) (DecQ.mono (by with_reducible assumption) (by omega)) (DecQ.mono (by with_reducible assumption) (by omega)) (DecQ.mono (by with_reducible assumption) (by omega)) (DecQ.mono (by with_reducible assumption) (by omega)) (DecQ.mono (by with_reducible assumption) (by omega))
  simp only [Fresh, List.forall_mem_cons, List.not_mem_nil, false_implies, implies_true, and_true]
  rename AllLt _ news => l1'
  (repeat' refine And.intro ?_ ?_) <;> first | walk_at "c fr" | tbn_find | exact tbn_up (by omega) l1'
theorem c_identity (B : Below A₀ base outer h₀) (F : Fr h₀ L s.heap m) (X : (Mine.hd0.heap_1 w.params).In h₀) (N : News h₀ L s.heap news) (T : Top VW LS mean mg mb h₀) (hk : cs.kind = .function) (hd : dp + 30 < recursionLimit) (hu : un + 300 < cLine) (ret : RetMat w h₀ L m news s Q ((1 : Int) : Rat) ((0 : Int) : Rat) ((0 : Int) : Rat) ((1 : Int) : Rat) ((0 : Int) : Rat) ((0 : Int) : Rat) 3) : wpAny (model PySem.Challenge.rw_qz0079_01.row.prog w) (ktrTop dp un gd cn cs L a₀ ccd cl outer) (call (.ref 290) []) Q E s := by
  have z0 : Bnd 0 3 := Bnd.small (by omega) (by omega)
  have z1 : Bnd 1 3 := Bnd.small (by omega) (by omega)
  revert X; k_fill; intro X
  w_on
  refine wpAny_call ?_
  k_dflt ktr_enter
  k_steps
  rename Fr h₀ L _ m => kF
  rename News h₀ L _ _ => kN
  exact ret _ _ _ _ _ _ _ _ _ _ _ _ _ _ _ _ _ _ _ _ _ _ _ _ _ _ _ _ _ _ _ _ _ _ _ _ _ _ _ _ _ _ _ _ _ _ kF kN (by with_reducible assumption) (by with_reducible assumption) (by with_reducible assumption) (by with_reducible assumption) (by with_reducible assumption) (by with_reducible assumption) (by with_reducible assumption)
theorem c_from (B : Below A₀ base outer h₀) (F : Fr h₀ L s.heap m) (X : (Mine.hd0.heap_1 w.params).In h₀) (N : News h₀ L s.heap news) (T : Top VW LS mean mg mb h₀) (hk : cs.kind = .function) (hd : dp + 30 < recursionLimit) (hu : un + 300 < cLine) {l : Addr} {n9 : Nat} {a b c d e f : Int} {ta tb tc td te tf : Tok} {n : Nat} (hl : (l, listOf #[.int a ta, .int b tb, .int c tc, .int d td, .int e te, .int f tf] n9) ∈ news)
   (ba : Bnd a n) (bb : Bnd b n) (bc : Bnd c n) (bd : Bnd d n) (be : Bnd e n) (bf : Bnd f n) (ret : RetMat w h₀ L m news s Q (a : Rat) (b : Rat) (c : Rat) (d : Rat) (e : Rat) (f : Rat) n) : wpAny (model PySem.Challenge.rw_qz0079_01.row.prog w) (ktrTop dp un gd cn cs L a₀ ccd cl outer) (call (.ref 297) [.ref l]) Q E s := by
  revert X; k_fill; intro X
  w_on
  refine wpAny_call ?_
  k_dflt ktr_enter
  k_steps
  rename Fr h₀ L _ m => kF
  rename News h₀ L _ _ => kN
  exact ret _ _ _ _ _ _ _ _ _ _ _ _ _ _ _ _ _ _ _ _ _ _ _ _ _ _ _ _ _ _ _ _ _ _ _ _ _ _ _ _ _ _ _ _ _ _ kF kN (by with_reducible assumption) (by with_reducible assumption) (by with_reducible assumption) (by with_reducible assumption) (by with_reducible assumption) (by with_reducible assumption) (by with_reducible assumption)

end
end PartC7
section PartC30
theorem lines_C30_1 : True := by
  k_with_none
  k_with "c mem" =>
    first | ((with_reducible refine' mem_here ?z152zh9); (case z152zh9 => exact rfl)) | ((with_reducible refine' mem_nth 1 ?z152zh9); (case z152zh9 => exact rfl)) | ((with_reducible refine' mem_nth 2 ?z152zh9); (case z152zh9 => exact rfl)) | ((with_reducible refine' mem_nth 3 ?z152zh9); (case z152zh9 => exact rfl)) | ((with_reducible refine' mem_nth 4 ?z152zh9); (case z152zh9 => exact rfl)) | ((with_reducible refine' mem_nth 5 ?z152zh9); (case z152zh9 => exact rfl)) | ((with_reducible refine' mem_nth 6 ?z152zh9); (case z152zh9 => exact rfl)) | ((with_reducible refine' mem_nth 7 ?z152zh9); (case z152zh9 => exact rfl)) | ((with_reducible refine' mem_nth 8 ?z152zh9); (case z152zh9 => exact rfl)) | ((with_reducible refine' mem_nth 9 ?z152zh9); (case z152zh9 => exact rfl)) | ((with_reducible refine' mem_skip ?_); walk_at "c mem") | (with_reducible exact List.mem_append_left _ (by with_reducible assumption)) | ktr_member | ((with_reducible refine' List.mem_cons_of_mem _ ?_); walk_at "c mem") | ((with_reducible refine' List.mem_append_right _ ?_); walk_at "c mem")
  k_with "c room" =>
    with_reducible first | assumption | exact room1 (by assumption) rfl | exact room2 (by assumption) rfl | exact room3 (by assumption) rfl | exact room4 (by assumption) rfl
  k_with "c le" =>
    with_reducible first | assumption | exact Nat.le_trans (by assumption) (by decide)
  k_with "c lt1" =>
    with_reducible first | assumption | exact cj0 | exact cj1 | exact cj2 | exact cj3 | exact cj4 | exact cj5 | exact cj6 | exact cj7 | exact cj8 | exact cj9 | exact cj10 | exact cj11 | exact cj12 | exact cj13 | exact cj14 | exact cj15 | exact cj16 | exact cj17 | exact cj18 | exact cj19 | exact cj20 | exact cj21 | exact cj22 | exact cj23 | exact And.right (by with_reducible assumption) | exact And.right (And.right (by with_reducible assumption)) | exact And.right (And.right (And.right (by with_reducible assumption))) | exact And.right (And.right (And.right (And.right (by with_reducible assumption))))
  k_with "c lt2" =>
    ((with_reducible refine' Nat.lt_trans ?z156za9 ?z156zb9); (case z156zb9 => with_reducible assumption); (case z156za9 => walk_at "c lt1"))
  k_with "c lt" =>
    first | walk_at "c lt1" | walk_at "c lt2"
  k_with "c up3" =>
    with_reducible first | exact abv3 (by assumption) | exact abv3_1 (by assumption) | exact abv3_2 (by assumption) | exact abv3_3 (by assumption) | exact abv3_4 (by assumption) | (refine' Abv3.tr ?z158za9 ?z158zb9; (case z158za9 => assumption); (case z158zb9 => walk_at "c up3"))
  k_with "c ne" =>
    first | with_reducible (first | assumption | exact And.left (by assumption) | exact Ne.symm (And.left (by assumption)) | exact And.left (And.right (by assumption)) | exact Ne.symm (And.left (And.right (by assumption))) | exact And.right (And.right (by assumption)) | exact Ne.symm (And.right (And.right (by assumption))) | exact neq_lt (by assumption) | exact neq_gt (by assumption) | exact nl0 | exact nr0 | exact nl1 | exact nr1 | exact nl2 | exact nr2 | exact nl3 | exact nr3 | exact nl4 | exact nr4 | exact nl5 | exact nr5 | exact nl6 | exact nr6 | exact nl7 | exact nr7 | exact nl8 | exact nr8 | exact nl9 | exact nr9 | exact nl10 | exact nr10 | exact nl11 | exact nr11 | exact nl12 | exact nr12 | exact nl13 | exact nr13 | exact nl14 | exact nr14 | exact nl15 | exact nr15 | exact nl16 | exact nr16 | exact nl17 | exact nr17 | exact nl18 | exact nr18 | exact nl19 | exact nr19 | exact nl20 | exact nr20 | exact nl21 | exact nr21 | exact nl22 | exact nr22 | exact nl23 | exact nr23) | ((with_reducible refine' neq_lt ?z159zz9); (case z159zz9 => walk_at "c lt2")) | ((with_reducible refine' neq_gt ?z159zz9); (case z159zz9 => walk_at "c lt2")) | ((try dsimp only); omega)
  k_with "c dp" =>
    ((try simp only [depth_under_make, depth_under_kw, depth_in1, depth_deeper, depth_caller]); (try dsimp only [ktrTop]); first | walk_at "c room" | omega | decide)
  k_with "c un" =>
    ((try simp only [units_make, units_in1, units_deeper, Around.mark_units, units_caller]); (try dsimp only [ktrTop]); first | walk_at "c room" | omega | decide)
  k_with "c sub" =>
    first | (refine List.forall_mem_cons.mpr ⟨?z162za, ?z162zb⟩; (case z162za => walk_at "c mem"); (case z162zb => walk_at "c sub")) | exact List.forall_mem_nil _ | (intro p9 h9; (repeat (first | exact h9 | refine List.mem_cons_of_mem _ ?_ | refine List.mem_append_left _ ?_)))
  k_with "c bnd" =>
    with_reducible (first | assumption | exact Bnd.pow _ | (refine' Bnd.fdiv ?z163za; (case z163za => walk_at "c bnd")) | (exact Bnd.mul (by walk_at "c bnd") (by walk_at "c bnd")) | (exact Bnd.add1 (by walk_at "c bnd") (by walk_at "c bnd")) | (exact Bnd.sub1 (by walk_at "c bnd") (by walk_at "c bnd")) | (exact Bnd.add (by walk_at "c bnd") (by walk_at "c bnd")) | (exact Bnd.sub (by walk_at "c bnd") (by walk_at "c bnd")))
  k_with "c ar" =>
    first | assumption | decide | omega | (split <;> omega)
  k_with "c mul" =>
    exact mulOk_bnd (by walk_at "c bnd") (by walk_at "c bnd") (by walk_at "c ar") (by walk_at "c ar")
  k_with "binaryOp Pow int int" =>
    ((with_reducible refine pow_int_small ?z166zkb1 ?z166zkb2 ?z166zkb3 ?_); (case z166zkb1 => walk_at "c ar"); (case z166zkb2 => walk_at "c ar"); (case z166zkb3 => decide))
  k_with "call ref" =>
    (k_here; (with_reducible show wpAny _ _ (call (Prod.fst _) (_ ++ _)) _ _ _); dsimp only [List.nil_append, List.cons_append])
  k_with "subscriptTail" =>
    (k_here; (with_reducible show wpAny _ _ (subscriptTail _ _ (Value.ref _) (Value.int _ _)) _ _ _); k_dflt (first
    | (refine' item_tupleT ?z168zt ?z168za ?z168zb ?z168zc ?z168zd ?_; (case z168zt => exact News.isTup (by k_asm) (by k_mem)); (case z168za => decide); (case z168zb => decide); (case z168zc => exact rfl); (case z168zd => exact rfl); k_whole)
    | (refine' c_item ?z168zN ?z168zm ?z168za ?z168zb ?z168zc ?_ ?z168zz; (case z168zN => k_asm); (case z168zm => k_mem); (case z168za => decide); (case z168zb => decide); (case z168zc => exact rfl); (case z168zz => with_unfolding_all rfl); k_whole)))
  k_with "subscriptTail Name Constant ref int" =>
    (k_here; (with_reducible show wpAny _ _ (subscriptTail _ _ (Value.ref _) (Value.int _ _)) _ _ _); k_dflt (first
    | (refine' item_tupleT ?z169zt ?z169za ?z169zb ?z169zc ?z169zd ?_; (case z169zt => exact News.isTup (by k_asm) (by k_mem)); (case z169za => decide); (case z169zb => decide); (case z169zc => exact rfl); (case z169zd => exact rfl); k_whole)
    | (refine' c_item ?z169zN ?z169zm ?z169za ?z169zb ?z169zc ?_ ?z169zz; (case z169zN => k_asm); (case z169zm => k_mem); (case z169za => decide); (case z169zb => decide); (case z169zc => exact rfl); (case z169zz => with_unfolding_all rfl); k_whole)))
  trivial
section
variable {w : World} {mean : ExcName → Option Value} {mg mb : PySem.Str → Option Value} {dp un : Nat} {gd : Option (List Code)} {cn : PySem.Str} {cs : Scope} {a₀ : Addr} {ccd : Value} {cl : List (PySem.Str × Addr)} {outer : List Env}
  {A₀ : Around} {base h₀ : Heap} {L : Addr} {m : PySem.Str → Option Value} {s : Shared} {news : List (Addr × Obj)} {Q : Flow → Shared → Prop} {E : Value → Shared → Prop} {Lf : Addr}
theorem lines_C30_2 : True := by
  k_with "call ref" =>
    (k_here; (with_reducible show wpAny _ _ (call (Value.ref 187) [Value.int _ _]) _ _ _); k_dflt (refine' c_of_int ?z170zcB ?z170zcF ?z170zcX ?z170zcN ?z170zcT ?z170zcK ?z170zcD ?z170zcU ?z170zp0 ?_; (case z170zcB => k_asm); (case z170zcF => k_asm); (case z170zcX => k_asm); (case z170zcN => k_asm); (case z170zcT => k_asm); (case z170zcK => first | exact rfl | assumption); (case z170zcD => walk_at "c dp"); (case z170zcU => walk_at "c un"); (case z170zp0 => walk_at "c bnd"); intro x' d' q1' q2' q3' q4' h' tk' F' N' l1 l2 hq'; (try simp only [AllLt, and_true] at l1); (try k_lt2 l2); (try k_sweep); (try dsimp only); (try k_fold)))
  k_with "call ref" =>
    (k_here; (with_reducible show wpAny _ _ (call (Value.ref 187) [Value.ref _]) _ _ _); k_dflt (refine' c_of_dec ?z171zcB ?z171zcF ?z171zcX ?z171zcN ?z171zcT ?z171zcK ?z171zcD ?z171zcU ?z171zp0 ?z171zp1 ?_; (case z171zcB => k_asm); (case z171zcF => k_asm); (case z171zcX => k_asm); (case z171zcN => k_asm); (case z171zcT => k_asm); (case z171zcK => first | exact rfl | assumption); (case z171zcD => walk_at "c dp"); (case z171zcU => walk_at "c un"); (case z171zp0 => k_mem); (case z171zp1 => k_mem); intro h' tk' F' N'; (try k_sweep); (try dsimp only); (try k_fold)))
  k_with "call ref" =>
    (k_here; (with_reducible show wpAny _ _ (call (Value.ref 110) [Value.ref _, Value.ref _]) _ _ _); k_dflt (refine' c_compared ?z172zcB ?z172zcF ?z172zcX ?z172zcN ?z172zcT ?z172zcK ?z172zcD ?z172zcU ?z172zp0 ?z172zp1 ?z172zp2 ?z172zp3 ?z172zp4 ?z172zp5 ?z172zp6 ?z172zp7 ?_; (case z172zcB => k_asm); (case z172zcF => k_asm); (case z172zcX => k_asm); (case z172zcN => k_asm); (case z172zcT => k_asm); (case z172zcK => first | exact rfl | assumption); (case z172zcD => walk_at "c dp"); (case z172zcU => walk_at "c un"); (case z172zp0 => k_mem); (case z172zp1 => k_mem); (case z172zp2 => with_reducible assumption); (case z172zp3 => k_mem); (case z172zp4 => k_mem); (case z172zp5 => with_reducible assumption); (case z172zp6 => first | walk_at "c le" | decide | omega); (case z172zp7 => first | walk_at "c le" | decide | omega); intro c' i1' h' tk' F' N' cC; (try k_sweep); (try dsimp only); (try k_fold)))
  k_with "eval Name" =>
    (k_here; k_dflt (refine' nameX_L ?z173zF ?z173zv ?_ ?z173za ?z173zb; (case z173zF => k_asm); (case z173za => exact rfl); (case z173zb => exact rfl); (case z173zv => first | exact rfl | assumption); k_whole))
  trivial

noncomputable def leastStmt : Stmt := (PySem.Challenge.rw_qz0079_01.row.prog.main.body.drop 14).headD (Stmt.Pass default)
noncomputable def leastBody : List Stmt := match leastStmt with
  | .FunctionDef _ _ b _ _ _ _ _ _ _ => b
  | _ => []
noncomputable def leastTurn : List Stmt := match (leastBody.drop 2).headD (Stmt.Pass default) with
  | .For _ _ b _ _ => b
  | _ => []
noncomputable def leastScope : Scope := match leastStmt with
  | .FunctionDef _ _ _ _ _ _ sc _ _ _ => sc
  | _ => default
theorem c_leastT (B : Below (ktrTop dp un gd cn cs L a₀ ccd cl outer) base (envX cn cs L a₀ ccd cl :: outer) h₀) (F : Fr h₀ Lf s.heap m) (X : (Mine.hd0.heap_1 w.params).In h₀) (N : News h₀ Lf s.heap news) (T : Top VW LS mean mg mb h₀) (hk : cs.kind = .function) (hd : dp + 30 < recursionLimit) (hu : un + 300 < cLine) {bd9 : List Stmt} {sc9 : Scope} (hb9 : bd9 = leastTurn) (hs9 : sc9 = leastScope) {out : List (Addr × Obj)} (hs : ∀ q ∈ out, q ∈ news)
    {a da b db : Addr} {qa qb : Rat} {n : Nat} {ka1 ka2 ka3 ka4 kb1 kb2 kb3 kb4 : Tok} (ha : (a, instObj 155 da) ∈ out) (hda : (da, decObj w qa ka1 ka2 ka3 ka4) ∈ out) (hqa : DecQ qa n) (hb : (b, instObj 155 db) ∈ out) (hdb : (db, decObj w qb kb1 kb2 kb3 kb4) ∈ out) (hqb : DecQ qb n) (hn : n ≤ 1000)
    (m_best : m (PySem.Str.ofString "best") = some (.ref a)) (m_value : m (PySem.Str.ofString "value") = some (.ref b))
    (ret : ∀ m' x dx k1 k2 k3 k4 q h' tk', Fr h₀ Lf h' m' → m' (PySem.Str.ofString "best") = some (.ref x) → News h₀ Lf h' news → (x, instObj 155 dx) ∈ out → (dx, decObj w q k1 k2 k3 k4) ∈ out → DecQ q n → q = min qa qb → Q .next { s with heap := h', toks := tk' }) :
    wpAny (model PySem.Challenge.rw_qz0079_01.row.prog w) ((ktrTop dp un gd cn cs L a₀ ccd cl outer).deeper (envOf (PySem.Str.ofString "least") sc9 Lf 222 (.ref 221))) (execs bd9 (envOf (PySem.Str.ofString "least") sc9 Lf 222 (.ref 221))) Q E s := by
  subst hb9 hs9
  have ha9 := hs _ ha
  have hda9 := hs _ hda
  have hb9 := hs _ hb
  have hdb9 := hs _ hdb
  conv in leastTurn => whnf
  conv in (occs := *) leastScope => whnf
  revert X; k_fill; intro X
  w_on
  (try k_fold)
  k_steps
  all_goals (
    rename Fr h₀ Lf _ _ => kF
    rename News h₀ Lf _ _ => kN
    first
      | (refine ret _ _ _ _ _ _ _ _ _ _ kF (by first | exact rfl | assumption) kN ha hda hqa ?_; clear kF kN ret; grind)
      | (refine ret _ _ _ _ _ _ _ _ _ _ kF (by first | exact rfl | assumption) kN hb hdb hqb ?_; clear kF kN ret; grind))

noncomputable def greatStmt : Stmt := (PySem.Challenge.rw_qz0079_01.row.prog.main.body.drop 15).headD (Stmt.Pass default)
noncomputable def greatBody : List Stmt := match greatStmt with
  | .FunctionDef _ _ b _ _ _ _ _ _ _ => b
  | _ => []
noncomputable def greatTurn : List Stmt := match (greatBody.drop 2).headD (Stmt.Pass default) with
  | .For _ _ b _ _ => b
  | _ => []
noncomputable def greatScope : Scope := match greatStmt with
  | .FunctionDef _ _ _ _ _ _ sc _ _ _ => sc
  | _ => default
theorem c_greatT (B : Below (ktrTop dp un gd cn cs L a₀ ccd cl outer) base (envX cn cs L a₀ ccd cl :: outer) h₀) (F : Fr h₀ Lf s.heap m) (X : (Mine.hd0.heap_1 w.params).In h₀) (N : News h₀ Lf s.heap news) (T : Top VW LS mean mg mb h₀) (hk : cs.kind = .function) (hd : dp + 30 < recursionLimit) (hu : un + 300 < cLine) {bd9 : List Stmt} {sc9 : Scope} (hb9 : bd9 = greatTurn) (hs9 : sc9 = greatScope) {out : List (Addr × Obj)} (hs : ∀ q ∈ out, q ∈ news)
    {a da b db : Addr} {qa qb : Rat} {n : Nat} {ka1 ka2 ka3 ka4 kb1 kb2 kb3 kb4 : Tok} (ha : (a, instObj 155 da) ∈ out) (hda : (da, decObj w qa ka1 ka2 ka3 ka4) ∈ out) (hqa : DecQ qa n) (hb : (b, instObj 155 db) ∈ out) (hdb : (db, decObj w qb kb1 kb2 kb3 kb4) ∈ out) (hqb : DecQ qb n) (hn : n ≤ 1000)
    (m_best : m (PySem.Str.ofString "best") = some (.ref a)) (m_value : m (PySem.Str.ofString "value") = some (.ref b))
    (ret : ∀ m' x dx k1 k2 k3 k4 q h' tk', Fr h₀ Lf h' m' → m' (PySem.Str.ofString "best") = some (.ref x) → News h₀ Lf h' news → (x, instObj 155 dx) ∈ out → (dx, decObj w q k1 k2 k3 k4) ∈ out → DecQ q n → q = max qa qb → Q .next { s with heap := h', toks := tk' }) :
    wpAny (model PySem.Challenge.rw_qz0079_01.row.prog w) ((ktrTop dp un gd cn cs L a₀ ccd cl outer).deeper (envOf (PySem.Str.ofString "greatest") sc9 Lf 229 (.ref 228))) (execs bd9 (envOf (PySem.Str.ofString "greatest") sc9 Lf 229 (.ref 228))) Q E s := by
  subst hb9 hs9
  have ha9 := hs _ ha
  have hda9 := hs _ hda
  have hb9 := hs _ hb
  have hdb9 := hs _ hdb
  conv in greatTurn => whnf
  conv in (occs := *) greatScope => whnf
  revert X; k_fill; intro X
  w_on
  (try k_fold)
  k_steps
  all_goals (
    rename Fr h₀ Lf _ _ => kF
    rename News h₀ Lf _ _ => kN
    first
      | (refine ret _ _ _ _ _ _ _ _ _ _ kF (by first | exact rfl | assumption) kN ha hda hqa ?_; clear kF kN ret; grind)
      | (refine ret _ _ _ _ _ _ _ _ _ _ kF (by first | exact rfl | assumption) kN hb hdb hqb ?_; clear kF kN ret; grind))
end
end PartC30
section PartC8
theorem lines_C8_1 : True := by
  k_with_none
  k_with "c mem" =>
    first | ((with_reducible refine' mem_here ?z174zh9); (case z174zh9 => exact rfl)) | ((with_reducible refine' mem_nth 1 ?z174zh9); (case z174zh9 => exact rfl)) | ((with_reducible refine' mem_nth 2 ?z174zh9); (case z174zh9 => exact rfl)) | ((with_reducible refine' mem_nth 3 ?z174zh9); (case z174zh9 => exact rfl)) | ((with_reducible refine' mem_nth 4 ?z174zh9); (case z174zh9 => exact rfl)) | ((with_reducible refine' mem_nth 5 ?z174zh9); (case z174zh9 => exact rfl)) | ((with_reducible refine' mem_nth 6 ?z174zh9); (case z174zh9 => exact rfl)) | ((with_reducible refine' mem_nth 7 ?z174zh9); (case z174zh9 => exact rfl)) | ((with_reducible refine' mem_nth 8 ?z174zh9); (case z174zh9 => exact rfl)) | ((with_reducible refine' mem_nth 9 ?z174zh9); (case z174zh9 => exact rfl)) | ((with_reducible refine' mem_skip ?_); walk_at "c mem") | (with_reducible exact List.mem_append_left _ (by with_reducible assumption)) | ktr_member | ((with_reducible refine' List.mem_cons_of_mem _ ?_); walk_at "c mem") | ((with_reducible refine' List.mem_append_right _ ?_); walk_at "c mem")
  k_with "c room" =>
    with_reducible first | assumption | exact room1 (by assumption) rfl | exact room2 (by assumption) rfl | exact room3 (by assumption) rfl | exact room4 (by assumption) rfl
  k_with "c le" =>
    with_reducible first | assumption | exact Nat.le_trans (by assumption) (by decide)
  k_with "c lt1" =>
    with_reducible first | assumption | exact cj0 | exact cj1 | exact cj2 | exact cj3 | exact cj4 | exact cj5 | exact cj6 | exact cj7 | exact cj8 | exact cj9 | exact cj10 | exact cj11 | exact cj12 | exact cj13 | exact cj14 | exact cj15 | exact cj16 | exact cj17 | exact cj18 | exact cj19 | exact cj20 | exact cj21 | exact cj22 | exact cj23 | exact And.right (by with_reducible assumption) | exact And.right (And.right (by with_reducible assumption)) | exact And.right (And.right (And.right (by with_reducible assumption))) | exact And.right (And.right (And.right (And.right (by with_reducible assumption))))
  k_with "c lt2" =>
    ((with_reducible refine' Nat.lt_trans ?z178za9 ?z178zb9); (case z178zb9 => with_reducible assumption); (case z178za9 => walk_at "c lt1"))
  k_with "c lt" =>
    first | walk_at "c lt1" | walk_at "c lt2"
  k_with "c up3" =>
    with_reducible first | exact abv3 (by assumption) | exact abv3_1 (by assumption) | exact abv3_2 (by assumption) | exact abv3_3 (by assumption) | exact abv3_4 (by assumption) | (refine' Abv3.tr ?z180za9 ?z180zb9; (case z180za9 => assumption); (case z180zb9 => walk_at "c up3"))
  k_with "c ne" =>
    first | with_reducible (first | assumption | exact And.left (by assumption) | exact Ne.symm (And.left (by assumption)) | exact And.left (And.right (by assumption)) | exact Ne.symm (And.left (And.right (by assumption))) | exact And.right (And.right (by assumption)) | exact Ne.symm (And.right (And.right (by assumption))) | exact neq_lt (by assumption) | exact neq_gt (by assumption) | exact nl0 | exact nr0 | exact nl1 | exact nr1 | exact nl2 | exact nr2 | exact nl3 | exact nr3 | exact nl4 | exact nr4 | exact nl5 | exact nr5 | exact nl6 | exact nr6 | exact nl7 | exact nr7 | exact nl8 | exact nr8 | exact nl9 | exact nr9 | exact nl10 | exact nr10 | exact nl11 | exact nr11 | exact nl12 | exact nr12 | exact nl13 | exact nr13 | exact nl14 | exact nr14 | exact nl15 | exact nr15 | exact nl16 | exact nr16 | exact nl17 | exact nr17 | exact nl18 | exact nr18 | exact nl19 | exact nr19 | exact nl20 | exact nr20 | exact nl21 | exact nr21 | exact nl22 | exact nr22 | exact nl23 | exact nr23) | ((with_reducible refine' neq_lt ?z181zz9); (case z181zz9 => walk_at "c lt2")) | ((with_reducible refine' neq_gt ?z181zz9); (case z181zz9 => walk_at "c lt2")) | ((try dsimp only); omega)
  k_with "c dp" =>
    ((try simp only [depth_under_make, depth_under_kw, depth_in1, depth_deeper, depth_caller]); (try dsimp only [ktrTop]); first | walk_at "c room" | omega | decide)
  k_with "c un" =>
    ((try simp only [units_make, units_in1, units_deeper, Around.mark_units, units_caller]); (try dsimp only [ktrTop]); first | walk_at "c room" | omega | decide)
  k_with "c sub" =>
    first | (refine List.forall_mem_cons.mpr ⟨?z184za, ?z184zb⟩; (case z184za => walk_at "c mem"); (case z184zb => walk_at "c sub")) | exact List.forall_mem_nil _ | (intro p9 h9; (repeat (first | exact h9 | refine List.mem_cons_of_mem _ ?_ | refine List.mem_append_left _ ?_)))
  k_with "c bnd" =>
    with_reducible (first | assumption | exact Bnd.pow _ | (refine' Bnd.fdiv ?z185za; (case z185za => walk_at "c bnd")) | (exact Bnd.mul (by walk_at "c bnd") (by walk_at "c bnd")) | (exact Bnd.add1 (by walk_at "c bnd") (by walk_at "c bnd")) | (exact Bnd.sub1 (by walk_at "c bnd") (by walk_at "c bnd")) | (exact Bnd.add (by walk_at "c bnd") (by walk_at "c bnd")) | (exact Bnd.sub (by walk_at "c bnd") (by walk_at "c bnd")))
  k_with "c ar" =>
    first | assumption | decide | omega | (split <;> omega)
  k_with "c mul" =>
    exact mulOk_bnd (by walk_at "c bnd") (by walk_at "c bnd") (by walk_at "c ar") (by walk_at "c ar")
  k_with "binaryOp Pow int int" =>
    ((with_reducible refine pow_int_small ?z188zkb1 ?z188zkb2 ?z188zkb3 ?_); (case z188zkb1 => walk_at "c ar"); (case z188zkb2 => walk_at "c ar"); (case z188zkb3 => decide))
  k_with "call ref" =>
    (k_here; (with_reducible show wpAny _ _ (call (Prod.fst _) (_ ++ _)) _ _ _); dsimp only [List.nil_append, List.cons_append])
  k_with "subscriptTail" =>
    (k_here; (with_reducible show wpAny _ _ (subscriptTail _ _ (Value.ref _) (Value.int _ _)) _ _ _); k_dflt (first
    | (refine' item_tupleT ?z190zt ?z190za ?z190zb ?z190zc ?z190zd ?_; (case z190zt => exact News.isTup (by k_asm) (by k_mem)); (case z190za => decide); (case z190zb => decide); (case z190zc => exact rfl); (case z190zd => exact rfl); k_whole)
    | (refine' c_item ?z190zN ?z190zm ?z190za ?z190zb ?z190zc ?_ ?z190zz; (case z190zN => k_asm); (case z190zm => k_mem); (case z190za => decide); (case z190zb => decide); (case z190zc => exact rfl); (case z190zz => with_unfolding_all rfl); k_whole)))
  k_with "subscriptTail Name Constant ref int" =>
    (k_here; (with_reducible show wpAny _ _ (subscriptTail _ _ (Value.ref _) (Value.int _ _)) _ _ _); k_dflt (first
    | (refine' item_tupleT ?z191zt ?z191za ?z191zb ?z191zc ?z191zd ?_; (case z191zt => exact News.isTup (by k_asm) (by k_mem)); (case z191za => decide); (case z191zb => decide); (case z191zc => exact rfl); (case z191zd => exact rfl); k_whole)
    | (refine' c_item ?z191zN ?z191zm ?z191za ?z191zb ?z191zc ?_ ?z191zz; (case z191zN => k_asm); (case z191zm => k_mem); (case z191za => decide); (case z191zb => decide); (case z191zc => exact rfl); (case z191zz => with_unfolding_all rfl); k_whole)))
  trivial
section
variable {w : World} {mean : ExcName → Option Value} {mg mb : PySem.Str → Option Value} {dp un : Nat} {gd : Option (List Code)} {cn : PySem.Str} {cs : Scope} {a₀ : Addr} {ccd : Value} {cl : List (PySem.Str × Addr)} {outer : List Env}
  {A₀ : Around} {base h₀ : Heap} {L : Addr} {m : PySem.Str → Option Value} {s : Shared} {news : List (Addr × Obj)} {Q E : Value → Shared → Prop}
theorem lines_C8_2 : True := by
  k_with "call ref" =>
    (k_here; (with_reducible show wpAny _ _ (call (Value.ref 187) [Value.int _ _]) _ _ _); k_dflt (refine' c_of_int ?z192zcB ?z192zcF ?z192zcX ?z192zcN ?z192zcT ?z192zcK ?z192zcD ?z192zcU ?z192zp0 ?_; (case z192zcB => k_asm); (case z192zcF => k_asm); (case z192zcX => k_asm); (case z192zcN => k_asm); (case z192zcT => k_asm); (case z192zcK => first | exact rfl | assumption); (case z192zcD => walk_at "c dp"); (case z192zcU => walk_at "c un"); (case z192zp0 => walk_at "c bnd"); intro x' d' q1' q2' q3' q4' h' tk' F' N' l1 l2 hq'; (try simp only [AllLt, and_true] at l1); (try k_lt2 l2); (try k_sweep); (try dsimp only); (try k_fold)))
  k_with "call ref" =>
    (k_here; (with_reducible show wpAny _ _ (call (Value.ref 187) [Value.ref _]) _ _ _); k_dflt (refine' c_of_dec ?z193zcB ?z193zcF ?z193zcX ?z193zcN ?z193zcT ?z193zcK ?z193zcD ?z193zcU ?z193zp0 ?z193zp1 ?_; (case z193zcB => k_asm); (case z193zcF => k_asm); (case z193zcX => k_asm); (case z193zcN => k_asm); (case z193zcT => k_asm); (case z193zcK => first | exact rfl | assumption); (case z193zcD => walk_at "c dp"); (case z193zcU => walk_at "c un"); (case z193zp0 => k_mem); (case z193zp1 => k_mem); intro h' tk' F' N'; (try k_sweep); (try dsimp only); (try k_fold)))
  k_with "call ref" =>
    (k_here; (with_reducible show wpAny _ _ (call (Value.ref 110) [Value.ref _, Value.ref _]) _ _ _); k_dflt (refine' c_compared ?z194zcB ?z194zcF ?z194zcX ?z194zcN ?z194zcT ?z194zcK ?z194zcD ?z194zcU ?z194zp0 ?z194zp1 ?z194zp2 ?z194zp3 ?z194zp4 ?z194zp5 ?z194zp6 ?z194zp7 ?_; (case z194zcB => k_asm); (case z194zcF => k_asm); (case z194zcX => k_asm); (case z194zcN => k_asm); (case z194zcT => k_asm); (case z194zcK => first | exact rfl | assumption); (case z194zcD => walk_at "c dp"); (case z194zcU => walk_at "c un"); (case z194zp0 => k_mem); (case z194zp1 => k_mem); (case z194zp2 => with_reducible assumption); (case z194zp3 => k_mem); (case z194zp4 => k_mem); (case z194zp5 => with_reducible assumption); (case z194zp6 => first | walk_at "c le" | decide | omega); (case z194zp7 => first | walk_at "c le" | decide | omega); intro c' i1' h' tk' F' N' cC; (try k_sweep); (try dsimp only); (try k_fold)))
  k_with "eval Name" =>
    (k_here; k_dflt (refine' nameX_L ?z195zF ?z195zv ?_ ?z195za ?z195zb; (case z195zF => k_asm); (case z195za => exact rfl); (case z195zb => exact rfl); (case z195zv => first | exact rfl | assumption); k_whole))
  k_with "c kepti" =>
    first | exact KeptI.done (by with_reducible assumption) | (refine' KeptI.skip ?z196zk9; (case z196zk9 => walk_at "c kepti")) | (refine' KeptI.take ?z196za ?z196zk9; (case z196za => omega); (case z196zk9 => walk_at "c kepti"))
  k_with "exec For Name Subscript cons nil" =>
    (k_here; (rename Fr _ _ _ _ => lF'); (with_unfolding_all refine' For_invVF lF' ?z197zk1 ?z197zk2 ?_; (case z197zk1 => exact rfl); (case z197zk2 => exact rfl); k_whole))
  k_with "pyIter ref" =>
    ((with_reducible show wpAny _ _ (pyIter (Value.ref _)) (fun it s₂ => LoopAtV _ _ _ _ _ _ _ _ _ it s₂) _ _); k_here; k_dflt (refine' iter_listUnr ?z198zhh ?z198zF ?z198zN ?z198zm ?z198zc ?z198zd ?_; (case z198zhh => exact rfl); (case z198zF => k_asm); (case z198zN => k_asm); (case z198zm => k_mem); (case z198zc => exact rfl); (case z198zd => exact rfl); intro I' lI'))
  k_with "UnrEnd" =>
    (k_dflt (refine' unr_end ?z199zF ?z199zN ?z199zk ?z199zi ?z199zm ?_; (case z199zF => k_asm); (case z199zN => k_asm); (case z199zk => with_reducible walk_at "c kepti"); (case z199zi => k_mem); (case z199zm => k_mem)))
  k_with "execs cons If nil" =>
    (k_here; (with_reducible show wpAny _ (Around.deeper _ (envOf _ _ _ 222 _)) _ _ _ _); k_dflt (refine' c_leastT ?z200zB ?z200zF ?z200zX ?z200zN ?z200zT ?z200zK ?z200zD ?z200zU ?z200zhb ?z200zhs ?z200zsub ?z200zha ?z200zhda ?z200zhqa ?z200zpb ?z200zpdb ?z200zpqb ?z200zhn ?z200zm1 ?z200zm2 ?_; (case z200zB => k_asm); (case z200zF => k_asm); (case z200zX => k_asm); (case z200zN => k_asm); (case z200zT => k_asm); (case z200zK => first | exact rfl | assumption); (case z200zD => assumption); (case z200zU => assumption); (case z200zm1 => first | exact rfl | assumption); (case z200zm2 => first | exact rfl | assumption); (case z200zhb => kernel_rfl); (case z200zhs => kernel_rfl); (case z200zha => with_reducible assumption); (case z200zhda => with_reducible assumption); (case z200zhqa => with_reducible assumption); (case z200zpb => with_reducible assumption); (case z200zpdb => with_reducible assumption); (case z200zpqb => with_reducible assumption); (case z200zsub => (intro p9 h9; (repeat (first | exact h9 | refine List.mem_cons_of_mem _ ?_)))); (case z200zhn => assumption); intro m' x' dx' k1' k2' k3' k4' q' h' tk' F' mb' N' hx' hdx' hq' eq'; subst eq'; (try k_sweep); (try dsimp only); (try k_fold)))
  k_with "execs cons If nil" =>
    (k_here; (with_reducible show wpAny _ (Around.deeper _ (envOf _ _ _ 229 _)) _ _ _ _); k_dflt (refine' c_greatT ?z201zB ?z201zF ?z201zX ?z201zN ?z201zT ?z201zK ?z201zD ?z201zU ?z201zhb ?z201zhs ?z201zsub ?z201zha ?z201zhda ?z201zhqa ?z201zpb ?z201zpdb ?z201zpqb ?z201zhn ?z201zm1 ?z201zm2 ?_; (case z201zB => k_asm); (case z201zF => k_asm); (case z201zX => k_asm); (case z201zN => k_asm); (case z201zT => k_asm); (case z201zK => first | exact rfl | assumption); (case z201zD => assumption); (case z201zU => assumption); (case z201zm1 => first | exact rfl | assumption); (case z201zm2 => first | exact rfl | assumption); (case z201zhb => kernel_rfl); (case z201zhs => kernel_rfl); (case z201zha => with_reducible assumption); (case z201zhda => with_reducible assumption); (case z201zhqa => with_reducible assumption); (case z201zpb => with_reducible assumption); (case z201zpdb => with_reducible assumption); (case z201zpqb => with_reducible assumption); (case z201zsub => (intro p9 h9; (repeat (first | exact h9 | refine List.mem_cons_of_mem _ ?_)))); (case z201zhn => assumption); intro m' x' dx' k1' k2' k3' k4' q' h' tk' F' mb' N' hx' hdx' hq' eq'; subst eq'; (try k_sweep); (try dsimp only); (try k_fold)))
  trivial

theorem c_least4 {l : Addr} {n9 : Nat} (B : Below A₀ base outer h₀) (F : Fr h₀ L s.heap m) (X : (Mine.hd0.heap_1 w.params).In h₀) (N : News h₀ L s.heap news) (T : Top VW LS mean mg mb h₀) (hk : cs.kind = .function) (hd : dp + 30 < recursionLimit) (hu : un + 300 < cLine) {n : Nat} {a da : Addr} {qa : Rat} {ka1 ka2 ka3 ka4 : Tok} (ha : (a, instObj 155 da) ∈ news) (hda : (da, decObj w qa ka1 ka2 ka3 ka4) ∈ news) (hqa : DecQ qa n) {b db : Addr} {qb : Rat} {kb1 kb2 kb3 kb4 : Tok} (hb : (b, instObj 155 db) ∈ news) (hdb : (db, decObj w qb kb1 kb2 kb3 kb4) ∈ news) (hqb : DecQ qb n) {c dc : Addr} {qc : Rat} {kc1 kc2 kc3 kc4 : Tok} (hc : (c, instObj 155 dc) ∈ news) (hdc : (dc, decObj w qc kc1 kc2 kc3 kc4) ∈ news) (hqc : DecQ qc n) {d dd : Addr} {qd : Rat} {kd1 kd2 kd3 kd4 : Tok} (hd : (d, instObj 155 dd) ∈ news) (hdd : (dd, decObj w qd kd1 kd2 kd3 kd4) ∈ news) (hqd : DecQ qd n) (hl : (l, listOf #[.ref a, .ref b, .ref c, .ref d] n9) ∈ news) (hn : n ≤ 1000)
    (ret : RetOld w h₀ L m news s Q (min (min (min (qa) qb) qc) qd) n) : wpAny (model PySem.Challenge.rw_qz0079_01.row.prog w) (ktrTop dp un gd cn cs L a₀ ccd cl outer) (call (.ref 222) [.ref l]) Q E s := by
  revert X; k_fill; intro X
  w_on
  refine wpAny_call ?_
  k_dflt ktr_enter
  k_steps
  all_goals (
    rename Fr h₀ L _ m => kF
    rename News h₀ L _ _ => kN
    exact ret _ _ _ _ _ _ _ _ _ kF (news_pick2 kN (by k_mem) (by k_mem) (by intro p9 h9; (repeat (first | exact h9 | refine List.mem_cons_of_mem _ ?_)))) (by with_reducible assumption) rfl)

theorem c_least2 {l : Addr} {n9 : Nat} (B : Below A₀ base outer h₀) (F : Fr h₀ L s.heap m) (X : (Mine.hd0.heap_1 w.params).In h₀) (N : News h₀ L s.heap news) (T : Top VW LS mean mg mb h₀) (hk : cs.kind = .function) (hd : dp + 30 < recursionLimit) (hu : un + 300 < cLine) {n : Nat} {a da : Addr} {qa : Rat} {ka1 ka2 ka3 ka4 : Tok} (ha : (a, instObj 155 da) ∈ news) (hda : (da, decObj w qa ka1 ka2 ka3 ka4) ∈ news) (hqa : DecQ qa n) {b db : Addr} {qb : Rat} {kb1 kb2 kb3 kb4 : Tok} (hb : (b, instObj 155 db) ∈ news) (hdb : (db, decObj w qb kb1 kb2 kb3 kb4) ∈ news) (hqb : DecQ qb n) (hl : (l, listOf #[.ref a, .ref b] n9) ∈ news) (hn : n ≤ 1000)
    (ret : RetOld w h₀ L m news s Q (min (qa) qb) n) : wpAny (model PySem.Challenge.rw_qz0079_01.row.prog w) (ktrTop dp un gd cn cs L a₀ ccd cl outer) (call (.ref 222) [.ref l]) Q E s := by
  revert X; k_fill; intro X
  w_on
  refine wpAny_call ?_
  k_dflt ktr_enter
  k_steps
  all_goals (
    rename Fr h₀ L _ m => kF
    rename News h₀ L _ _ => kN
    exact ret _ _ _ _ _ _ _ _ _ kF (news_pick2 kN (by k_mem) (by k_mem) (by intro p9 h9; (repeat (first | exact h9 | refine List.mem_cons_of_mem _ ?_)))) (by with_reducible assumption) rfl)

theorem c_great4 {l : Addr} {n9 : Nat} (B : Below A₀ base outer h₀) (F : Fr h₀ L s.heap m) (X : (Mine.hd0.heap_1 w.params).In h₀) (N : News h₀ L s.heap news) (T : Top VW LS mean mg mb h₀) (hk : cs.kind = .function) (hd : dp + 30 < recursionLimit) (hu : un + 300 < cLine) {n : Nat} {a da : Addr} {qa : Rat} {ka1 ka2 ka3 ka4 : Tok} (ha : (a, instObj 155 da) ∈ news) (hda : (da, decObj w qa ka1 ka2 ka3 ka4) ∈ news) (hqa : DecQ qa n) {b db : Addr} {qb : Rat} {kb1 kb2 kb3 kb4 : Tok} (hb : (b, instObj 155 db) ∈ news) (hdb : (db, decObj w qb kb1 kb2 kb3 kb4) ∈ news) (hqb : DecQ qb n) {c dc : Addr} {qc : Rat} {kc1 kc2 kc3 kc4 : Tok} (hc : (c, instObj 155 dc) ∈ news) (hdc : (dc, decObj w qc kc1 kc2 kc3 kc4) ∈ news) (hqc : DecQ qc n) {d dd : Addr} {qd : Rat} {kd1 kd2 kd3 kd4 : Tok} (hd : (d, instObj 155 dd) ∈ news) (hdd : (dd, decObj w qd kd1 kd2 kd3 kd4) ∈ news) (hqd : DecQ qd n) (hl : (l, listOf #[.ref a, .ref b, .ref c, .ref d] n9) ∈ news) (hn : n ≤ 1000)
    (ret : RetOld w h₀ L m news s Q (max (max (max (qa) qb) qc) qd) n) : wpAny (model PySem.Challenge.rw_qz0079_01.row.prog w) (ktrTop dp un gd cn cs L a₀ ccd cl outer) (call (.ref 229) [.ref l]) Q E s := by
  revert X; k_fill; intro X
  w_on
  refine wpAny_call ?_
  k_dflt ktr_enter
  k_steps
  all_goals (
    rename Fr h₀ L _ m => kF
    rename News h₀ L _ _ => kN
    exact ret _ _ _ _ _ _ _ _ _ kF (news_pick2 kN (by k_mem) (by k_mem) (by intro p9 h9; (repeat (first | exact h9 | refine List.mem_cons_of_mem _ ?_)))) (by with_reducible assumption) rfl)

theorem c_great2 {l : Addr} {n9 : Nat} (B : Below A₀ base outer h₀) (F : Fr h₀ L s.heap m) (X : (Mine.hd0.heap_1 w.params).In h₀) (N : News h₀ L s.heap news) (T : Top VW LS mean mg mb h₀) (hk : cs.kind = .function) (hd : dp + 30 < recursionLimit) (hu : un + 300 < cLine) {n : Nat} {a da : Addr} {qa : Rat} {ka1 ka2 ka3 ka4 : Tok} (ha : (a, instObj 155 da) ∈ news) (hda : (da, decObj w qa ka1 ka2 ka3 ka4) ∈ news) (hqa : DecQ qa n) {b db : Addr} {qb : Rat} {kb1 kb2 kb3 kb4 : Tok} (hb : (b, instObj 155 db) ∈ news) (hdb : (db, decObj w qb kb1 kb2 kb3 kb4) ∈ news) (hqb : DecQ qb n) (hl : (l, listOf #[.ref a, .ref b] n9) ∈ news) (hn : n ≤ 1000)
    (ret : RetOld w h₀ L m news s Q (max (qa) qb) n) : wpAny (model PySem.Challenge.rw_qz0079_01.row.prog w) (ktrTop dp un gd cn cs L a₀ ccd cl outer) (call (.ref 229) [.ref l]) Q E s := by
  revert X; k_fill; intro X
  w_on
  refine wpAny_call ?_
  k_dflt ktr_enter
  k_steps
  all_goals (
    rename Fr h₀ L _ m => kF
    rename News h₀ L _ _ => kN
    exact ret _ _ _ _ _ _ _ _ _ kF (news_pick2 kN (by k_mem) (by k_mem) (by intro p9 h9; (repeat (first | exact h9 | refine List.mem_cons_of_mem _ ?_)))) (by with_reducible assumption) rfl)

end
end PartC8
section PartC9
theorem lines_C9_1 : True := by
  k_with_none
  k_with "c mem" =>
    first | ((with_reducible refine' mem_here ?z202zh9); (case z202zh9 => exact rfl)) | ((with_reducible refine' mem_nth 1 ?z202zh9); (case z202zh9 => exact rfl)) | ((with_reducible refine' mem_nth 2 ?z202zh9); (case z202zh9 => exact rfl)) | ((with_reducible refine' mem_nth 3 ?z202zh9); (case z202zh9 => exact rfl)) | ((with_reducible refine' mem_nth 4 ?z202zh9); (case z202zh9 => exact rfl)) | ((with_reducible refine' mem_nth 5 ?z202zh9); (case z202zh9 => exact rfl)) | ((with_reducible refine' mem_nth 6 ?z202zh9); (case z202zh9 => exact rfl)) | ((with_reducible refine' mem_nth 7 ?z202zh9); (case z202zh9 => exact rfl)) | ((with_reducible refine' mem_nth 8 ?z202zh9); (case z202zh9 => exact rfl)) | ((with_reducible refine' mem_nth 9 ?z202zh9); (case z202zh9 => exact rfl)) | ((with_reducible refine' mem_skip ?_); walk_at "c mem") | (with_reducible exact List.mem_append_left _ (by with_reducible assumption)) | ktr_member | ((with_reducible refine' List.mem_cons_of_mem _ ?_); walk_at "c mem") | ((with_reducible refine' List.mem_append_right _ ?_); walk_at "c mem")
  k_with "c room" =>
    with_reducible first | assumption | exact room1 (by assumption) rfl | exact room2 (by assumption) rfl | exact room3 (by assumption) rfl | exact room4 (by assumption) rfl
  k_with "c le" =>
    with_reducible first | assumption | exact Nat.le_trans (by assumption) (by decide)
  k_with "c lt1" =>
    with_reducible first | assumption | exact cj0 | exact cj1 | exact cj2 | exact cj3 | exact cj4 | exact cj5 | exact cj6 | exact cj7 | exact cj8 | exact cj9 | exact cj10 | exact cj11 | exact cj12 | exact cj13 | exact cj14 | exact cj15 | exact cj16 | exact cj17 | exact cj18 | exact cj19 | exact cj20 | exact cj21 | exact cj22 | exact cj23 | exact And.right (by with_reducible assumption) | exact And.right (And.right (by with_reducible assumption)) | exact And.right (And.right (And.right (by with_reducible assumption))) | exact And.right (And.right (And.right (And.right (by with_reducible assumption))))
  k_with "c lt2" =>
    ((with_reducible refine' Nat.lt_trans ?z206za9 ?z206zb9); (case z206zb9 => with_reducible assumption); (case z206za9 => walk_at "c lt1"))
  k_with "c lt" =>
    first | walk_at "c lt1" | walk_at "c lt2"
  k_with "c up3" =>
    with_reducible first | exact abv3 (by assumption) | exact abv3_1 (by assumption) | exact abv3_2 (by assumption) | exact abv3_3 (by assumption) | exact abv3_4 (by assumption) | (refine' Abv3.tr ?z208za9 ?z208zb9; (case z208za9 => assumption); (case z208zb9 => walk_at "c up3"))
  k_with "c ne" =>
    first | with_reducible (first | assumption | exact And.left (by assumption) | exact Ne.symm (And.left (by assumption)) | exact And.left (And.right (by assumption)) | exact Ne.symm (And.left (And.right (by assumption))) | exact And.right (And.right (by assumption)) | exact Ne.symm (And.right (And.right (by assumption))) | exact neq_lt (by assumption) | exact neq_gt (by assumption) | exact nl0 | exact nr0 | exact nl1 | exact nr1 | exact nl2 | exact nr2 | exact nl3 | exact nr3 | exact nl4 | exact nr4 | exact nl5 | exact nr5 | exact nl6 | exact nr6 | exact nl7 | exact nr7 | exact nl8 | exact nr8 | exact nl9 | exact nr9 | exact nl10 | exact nr10 | exact nl11 | exact nr11 | exact nl12 | exact nr12 | exact nl13 | exact nr13 | exact nl14 | exact nr14 | exact nl15 | exact nr15 | exact nl16 | exact nr16 | exact nl17 | exact nr17 | exact nl18 | exact nr18 | exact nl19 | exact nr19 | exact nl20 | exact nr20 | exact nl21 | exact nr21 | exact nl22 | exact nr22 | exact nl23 | exact nr23) | ((with_reducible refine' neq_lt ?z209zz9); (case z209zz9 => walk_at "c lt2")) | ((with_reducible refine' neq_gt ?z209zz9); (case z209zz9 => walk_at "c lt2")) | ((try dsimp only); omega)
  k_with "c dp" =>
    ((try simp only [depth_under_make, depth_under_kw, depth_in1, depth_deeper, depth_caller]); (try dsimp only [ktrTop]); first | walk_at "c room" | omega | decide)
  k_with "c un" =>
    ((try simp only [units_make, units_in1, units_deeper, Around.mark_units, units_caller]); (try dsimp only [ktrTop]); first | walk_at "c room" | omega | decide)
  k_with "c sub" =>
    first | (refine List.forall_mem_cons.mpr ⟨?z212za, ?z212zb⟩; (case z212za => walk_at "c mem"); (case z212zb => walk_at "c sub")) | exact List.forall_mem_nil _ | (intro p9 h9; (repeat (first | exact h9 | refine List.mem_cons_of_mem _ ?_ | refine List.mem_append_left _ ?_)))
  k_with "c bnd" =>
    with_reducible (first | assumption | exact Bnd.pow _ | (refine' Bnd.fdiv ?z213za; (case z213za => walk_at "c bnd")) | (exact Bnd.mul (by walk_at "c bnd") (by walk_at "c bnd")) | (exact Bnd.add1 (by walk_at "c bnd") (by walk_at "c bnd")) | (exact Bnd.sub1 (by walk_at "c bnd") (by walk_at "c bnd")) | (exact Bnd.add (by walk_at "c bnd") (by walk_at "c bnd")) | (exact Bnd.sub (by walk_at "c bnd") (by walk_at "c bnd")))
  k_with "c ar" =>
    first | assumption | decide | omega | (split <;> omega)
  k_with "c mul" =>
    exact mulOk_bnd (by walk_at "c bnd") (by walk_at "c bnd") (by walk_at "c ar") (by walk_at "c ar")
  k_with "binaryOp Pow int int" =>
    ((with_reducible refine pow_int_small ?z216zkb1 ?z216zkb2 ?z216zkb3 ?_); (case z216zkb1 => walk_at "c ar"); (case z216zkb2 => walk_at "c ar"); (case z216zkb3 => decide))
  k_with "call ref" =>
    (k_here; (with_reducible show wpAny _ _ (call (Prod.fst _) (_ ++ _)) _ _ _); dsimp only [List.nil_append, List.cons_append])
  k_with "subscriptTail" =>
    (k_here; (with_reducible show wpAny _ _ (subscriptTail _ _ (Value.ref _) (Value.int _ _)) _ _ _); k_dflt (first
    | (refine' item_tupleT ?z218zt ?z218za ?z218zb ?z218zc ?z218zd ?_; (case z218zt => exact News.isTup (by k_asm) (by k_mem)); (case z218za => decide); (case z218zb => decide); (case z218zc => exact rfl); (case z218zd => exact rfl); k_whole)
    | (refine' c_item ?z218zN ?z218zm ?z218za ?z218zb ?z218zc ?_ ?z218zz; (case z218zN => k_asm); (case z218zm => k_mem); (case z218za => decide); (case z218zb => decide); (case z218zc => exact rfl); (case z218zz => with_unfolding_all rfl); k_whole)))
  k_with "subscriptTail Name Constant ref int" =>
    (k_here; (with_reducible show wpAny _ _ (subscriptTail _ _ (Value.ref _) (Value.int _ _)) _ _ _); k_dflt (first
    | (refine' item_tupleT ?z219zt ?z219za ?z219zb ?z219zc ?z219zd ?_; (case z219zt => exact News.isTup (by k_asm) (by k_mem)); (case z219za => decide); (case z219zb => decide); (case z219zc => exact rfl); (case z219zd => exact rfl); k_whole)
    | (refine' c_item ?z219zN ?z219zm ?z219za ?z219zb ?z219zc ?_ ?z219zz; (case z219zN => k_asm); (case z219zm => k_mem); (case z219za => decide); (case z219zb => decide); (case z219zc => exact rfl); (case z219zz => with_unfolding_all rfl); k_whole)))
  trivial
section
variable {w : World} {mean : ExcName → Option Value} {mg mb : PySem.Str → Option Value} {dp un : Nat} {gd : Option (List Code)} {cn : PySem.Str} {cs : Scope} {a₀ : Addr} {ccd : Value} {cl : List (PySem.Str × Addr)} {outer : List Env}
  {A₀ : Around} {base h₀ : Heap} {L : Addr} {m : PySem.Str → Option Value} {s : Shared} {news : List (Addr × Obj)} {Q E : Value → Shared → Prop}
theorem lines_C9_2 : True := by
  k_with "call ref" =>
    (k_here; (with_reducible show wpAny _ _ (call (Value.ref 187) [Value.int _ _]) _ _ _); k_dflt (refine' c_of_int ?z220zcB ?z220zcF ?z220zcX ?z220zcN ?z220zcT ?z220zcK ?z220zcD ?z220zcU ?z220zp0 ?_; (case z220zcB => k_asm); (case z220zcF => k_asm); (case z220zcX => k_asm); (case z220zcN => k_asm); (case z220zcT => k_asm); (case z220zcK => first | exact rfl | assumption); (case z220zcD => walk_at "c dp"); (case z220zcU => walk_at "c un"); (case z220zp0 => walk_at "c bnd"); intro x' d' q1' q2' q3' q4' h' tk' F' N' l1 l2 hq'; (try simp only [AllLt, and_true] at l1); (try k_lt2 l2); (try k_sweep); (try dsimp only); (try k_fold)))
  k_with "call ref" =>
    (k_here; (with_reducible show wpAny _ _ (call (Value.ref 187) [Value.ref _]) _ _ _); k_dflt (refine' c_of_dec ?z221zcB ?z221zcF ?z221zcX ?z221zcN ?z221zcT ?z221zcK ?z221zcD ?z221zcU ?z221zp0 ?z221zp1 ?_; (case z221zcB => k_asm); (case z221zcF => k_asm); (case z221zcX => k_asm); (case z221zcN => k_asm); (case z221zcT => k_asm); (case z221zcK => first | exact rfl | assumption); (case z221zcD => walk_at "c dp"); (case z221zcU => walk_at "c un"); (case z221zp0 => k_mem); (case z221zp1 => k_mem); intro h' tk' F' N'; (try k_sweep); (try dsimp only); (try k_fold)))
  k_with "call ref" =>
    (k_here; (with_reducible show wpAny _ _ (call (Value.ref 110) [Value.ref _, Value.ref _]) _ _ _); k_dflt (refine' c_compared ?z222zcB ?z222zcF ?z222zcX ?z222zcN ?z222zcT ?z222zcK ?z222zcD ?z222zcU ?z222zp0 ?z222zp1 ?z222zp2 ?z222zp3 ?z222zp4 ?z222zp5 ?z222zp6 ?z222zp7 ?_; (case z222zcB => k_asm); (case z222zcF => k_asm); (case z222zcX => k_asm); (case z222zcN => k_asm); (case z222zcT => k_asm); (case z222zcK => first | exact rfl | assumption); (case z222zcD => walk_at "c dp"); (case z222zcU => walk_at "c un"); (case z222zp0 => k_mem); (case z222zp1 => k_mem); (case z222zp2 => with_reducible assumption); (case z222zp3 => k_mem); (case z222zp4 => k_mem); (case z222zp5 => with_reducible assumption); (case z222zp6 => first | walk_at "c le" | decide | omega); (case z222zp7 => first | walk_at "c le" | decide | omega); intro c' i1' h' tk' F' N' cC; (try k_sweep); (try dsimp only); (try k_fold)))
  k_with "call ref" =>
    (k_here; (with_reducible show wpAny _ _ (call (Value.ref 194) [Value.ref _, Value.ref _]) _ _ _); k_dflt (refine' c_scale ?z223zcB ?z223zcF ?z223zcX ?z223zcN ?z223zcT ?z223zcK ?z223zcD ?z223zcU ?z223zp0 ?z223zp1 ?z223zp2 ?z223zp3 ?z223zp4 ?z223zp5 ?z223zp6 ?z223zp7 ?_; (case z223zcB => k_asm); (case z223zcF => k_asm); (case z223zcX => k_asm); (case z223zcN => k_asm); (case z223zcT => k_asm); (case z223zcK => first | exact rfl | assumption); (case z223zcD => walk_at "c dp"); (case z223zcU => walk_at "c un"); (case z223zp0 => k_mem); (case z223zp1 => k_mem); (case z223zp2 => with_reducible assumption); (case z223zp3 => k_mem); (case z223zp4 => k_mem); (case z223zp5 => with_reducible assumption); (case z223zp6 => first | walk_at "c le" | decide | omega); (case z223zp7 => first | walk_at "c le" | decide | omega); intro t' A' B' P' i1' i2' i3' h' tk' F' N' l1 eA eB bA bB nP lP eP; (try simp only [AllLt, and_true] at l1); (try k_sweep); (try dsimp only); (try k_fold)))
  k_with "call ref" =>
    (k_here; (with_reducible show wpAny _ _ (call (Value.ref 155) [Value.int _ _, Value.int _ _]) _ _ _); k_dflt (refine' c_new ?z224zcB ?z224zcF ?z224zcX ?z224zcN ?z224zcT ?z224zcK ?z224zcD ?z224zcU ?z224zp0 ?z224zp1 ?z224zp2 ?_; (case z224zcB => k_asm); (case z224zcF => k_asm); (case z224zcX => k_asm); (case z224zcN => k_asm); (case z224zcT => k_asm); (case z224zcK => first | exact rfl | assumption); (case z224zcD => walk_at "c dp"); (case z224zcU => walk_at "c un"); (case z224zp0 => walk_at "c bnd"); (case z224zp1 => first | walk_at "c le" | decide | omega); (case z224zp2 => first | walk_at "c le" | decide | omega); intro x' d' q1' q2' q3' q4' h' tk' F' N' l1 l2 hq'; (try simp only [AllLt, and_true] at l1); (try k_lt2 l2); (try k_sweep); (try dsimp only); (try k_fold)))
  k_with "call ref" =>
    (k_here; (with_reducible show wpAny _ _ (call (Value.ref 155) [Value.int _ _, Value.int 0 _]) _ _ _); k_dflt (refine' c_new0 ?z225zcB ?z225zcF ?z225zcX ?z225zcN ?z225zcT ?z225zcK ?z225zcD ?z225zcU ?z225zp0 ?_; (case z225zcB => k_asm); (case z225zcF => k_asm); (case z225zcX => k_asm); (case z225zcN => k_asm); (case z225zcT => k_asm); (case z225zcK => first | exact rfl | assumption); (case z225zcD => walk_at "c dp"); (case z225zcU => walk_at "c un"); (case z225zp0 => walk_at "c bnd"); intro x' d' q1' q2' q3' q4' h' tk' F' N' l1 l2 hq'; (try simp only [AllLt, and_true] at l1); (try k_lt2 l2); (try k_sweep); (try dsimp only); (try k_fold)))
  k_with "c kepti" =>
    first | exact KeptI.done (by with_reducible assumption) | (refine' KeptI.skip ?z226zk9; (case z226zk9 => walk_at "c kepti")) | (refine' KeptI.take ?z226za ?z226zk9; (case z226za => omega); (case z226zk9 => walk_at "c kepti"))
  k_with "exec For Name Subscript cons nil" =>
    (k_here; (rename Fr _ _ _ _ => lF'); (with_unfolding_all refine' For_invVF lF' ?z227zk1 ?z227zk2 ?_; (case z227zk1 => exact rfl); (case z227zk2 => exact rfl); k_whole))
  k_with "pyIter ref" =>
    ((with_reducible show wpAny _ _ (pyIter (Value.ref _)) (fun it s₂ => LoopAtV _ _ _ _ _ _ _ _ _ it s₂) _ _); k_here; k_dflt (refine' iter_listUnr ?z228zhh ?z228zF ?z228zN ?z228zm ?z228zc ?z228zd ?_; (case z228zhh => exact rfl); (case z228zF => k_asm); (case z228zN => k_asm); (case z228zm => k_mem); (case z228zc => exact rfl); (case z228zd => exact rfl); intro I' lI'))
  k_with "UnrEnd" =>
    (k_dflt (refine' unr_end ?z229zF ?z229zN ?z229zk ?z229zi ?z229zm ?_; (case z229zF => k_asm); (case z229zN => k_asm); (case z229zk => with_reducible walk_at "c kepti"); (case z229zi => k_mem); (case z229zm => k_mem)))
  k_with "exec While Compare cons nil" =>
    (k_extra "my while")
  trivial

theorem gcd_step {x y : Int} (hy : 0 < y) (hx : 0 ≤ x) : Int.gcd y (x.fmod y) = Int.gcd x y := by
  rw [Int.fmod_eq_emod_of_nonneg _ (by omega)]
  obtain ⟨n, rfl⟩ := Int.eq_ofNat_of_zero_le hx
  obtain ⟨k, rfl⟩ := Int.eq_ofNat_of_zero_le (Int.le_of_lt hy)
  rw [← Int.natCast_emod]
  show Nat.gcd k (n % k) = Nat.gcd n k
  rw [Nat.gcd_comm n k, Nat.gcd_rec k n, Nat.gcd_comm]
theorem gcd_start {a b : Int} : 0 ≤ (if a < 0 then -a else a) ∧ 0 ≤ (if b < 0 then -b else b) ∧ Int.gcd (if a < 0 then -a else a) (if b < 0 then -b else b) = Int.gcd a b := by
  refine ⟨by split <;> omega, by split <;> omega, ?_⟩
  split <;> split <;> simp [Int.gcd_neg, Int.neg_gcd]
theorem gcd_turn {a b x y : Int} (h1 : 0 ≤ x) (h2 : 0 ≤ y) (h3 : Int.gcd x y = Int.gcd a b) (hy : 0 < y) : 0 ≤ y ∧ 0 ≤ x.fmod y ∧ Int.gcd y (x.fmod y) = Int.gcd a b := by
  refine ⟨h2, Int.fmod_nonneg_of_pos _ hy, ?_⟩
  rw [gcd_step hy h1]; exact h3
theorem gcd_less {x y : Int} (hy : 0 < y) : (x.fmod y).toNat < y.toNat := by
  have h1 := Int.fmod_nonneg_of_pos x hy
  have h2 := Int.fmod_lt_of_pos x hy
  omega
theorem gcd_end {a b x y : Int} (h1 : 0 ≤ x) (h2 : 0 ≤ y) (h3 : Int.gcd x y = Int.gcd a b) (hy : ¬ 0 < y) : x = (Int.gcd a b : Int) := by
  have : y = 0 := by omega
  subst this
  rw [Int.gcd_zero_right] at h3
  omega
theorem c_gcd {a b : Int} {t1 t2 : Tok} (B : Below A₀ base outer h₀) (F : Fr h₀ L s.heap m) (X : (Mine.hd0.heap_1 w.params).In h₀) (N : News h₀ L s.heap news) (T : Top VW LS mean mg mb h₀) (hk : cs.kind = .function) (hd : dp + 5 < recursionLimit) (hu : un + 50 < cLine)
    (ret : ∀ t h' tk', Fr h₀ L h' m → News h₀ L h' news → Q (.int (Int.gcd a b) t) { s with heap := h', toks := tk' }) : wpAny (model PySem.Challenge.rw_qz0079_01.row.prog w) (ktrTop dp un gd cn cs L a₀ ccd cl outer) (call (.ref 208) [.int a t1, .int b t2]) Q E s := by
  revert X; k_fill; intro X
  w_on
  refine wpAny_call ?_
  k_dflt ktr_enter
  (k_with "state" => first | exact gcd_start | exact gcd_turn (by assumption) (by assumption) (by assumption) (by assumption))
  (k_with "measure" => exact gcd_less (by assumption))
  (k_with "my while" => k_while (fun _ x y => 0 ≤ x ∧ 0 ≤ y ∧ Int.gcd x y = Int.gcd a b) (fun _ _ y => y.toNat) "first" "second")
  k_steps
  rename Fr h₀ L _ m => kF
  rename News h₀ L _ _ => kN
  rename Int.gcd _ _ = Int.gcd _ _ => hg9
  have e9 := gcd_end (by assumption) (by assumption) hg9 (by assumption)
  rw [e9]
  exact ret _ _ _ kF kN

theorem c_gcdn {a b : Int} {t1 t2 : Tok} (B : Below A₀ base outer h₀) (F : Fr h₀ L s.heap m) (X : (Mine.hd0.heap_1 w.params).In h₀) (N : News h₀ L s.heap news) (T : Top VW LS mean mg mb h₀) (hk : cs.kind = .function) (hd : dp + 5 < recursionLimit) (hu : un + 50 < cLine) (hb : Nice b)
    (ret : ∀ g R t h' tk', Fr h₀ L h' m → News h₀ L h' news → g = (Int.gcd a b : Int) → 0 < g → g ≤ 400 → (if b < 0 then -b else b) = R * g → 0 < R → R ≤ 400 → NiceTab R → Q (.int g t) { s with heap := h', toks := tk' }) : wpAny (model PySem.Challenge.rw_qz0079_01.row.prog w) (ktrTop dp un gd cn cs L a₀ ccd cl outer) (call (.ref 208) [.int a t1, .int b t2]) Q E s := by
  obtain ⟨g, R, e1, e2, e3, e4, e5, e5', e6, e7, e8, e9, e10⟩ := nice_parts (X := a) hb
  refine c_gcd B F X N T hk hd hu (fun t h' tk' F' N' => ?_)
  rw [← e1]
  exact ret g R t h' tk' F' N' e1 e2 e5' e3 e4 e5 ⟨e4, e6, e7, e8, e9, e10⟩
theorem fdiv_ex {prog : Program} {w : World} {A : Around} {E : Value → Shared → Prop} {s : Shared} {a b R : Int} {t u : Tok} {Q : Value → Shared → Prop} (e : a = R * b) (hb : 0 < b) (hb4 : b ≤ 400)
    (h : Q (.int R s.toks) { s with toks := s.toks + 1 }) : wpAny (model prog w) A (binaryOp .FloorDiv (.int a t) (.int b u)) Q E s := by
  refine floordiv_int (by omega) ?_ (Or.inl (PyProof.noPylong_small (by omega)))
  rw [e, Int.mul_fdiv_cancel _ (by omega)]; exact h

theorem lines_C9_3 : True := by
  k_with "call ref" =>
    (k_here; (with_reducible show wpAny _ _ (call (Value.ref 194) [Value.ref _, Value.ref _]) _ _ _); k_dflt (refine' c_scale ?z231zcB ?z231zcF ?z231zcX ?z231zcN ?z231zcT ?z231zcK ?z231zcD ?z231zcU ?z231zp0 ?z231zp1 ?z231zp2 ?z231zp3 ?z231zp4 ?z231zp5 ?z231zp6 ?z231zp7 ?_; (case z231zcB => k_asm); (case z231zcF => k_asm); (case z231zcX => k_asm); (case z231zcN => k_asm); (case z231zcT => k_asm); (case z231zcK => first | exact rfl | assumption); (case z231zcD => walk_at "c dp"); (case z231zcU => walk_at "c un"); (case z231zp0 => k_mem); (case z231zp1 => k_mem); (case z231zp2 => with_reducible assumption); (case z231zp3 => k_mem); (case z231zp4 => k_mem); (case z231zp5 => with_reducible assumption); (case z231zp6 => first | walk_at "c le" | decide | omega); (case z231zp7 => first | walk_at "c le" | decide | omega); intro t' A' B' P' i1' i2' i3' h' tk' F' N' l1 eA eB bA bB nP lP eP; (try simp only [AllLt, and_true] at l1); have zP := int_scaledP eP; have zA := int_scaledA eA zP; have zB := int_scaledA eB zP; clear eP eA eB; subst zA zB zP; (try k_sweep); (try dsimp only); (try k_fold)))
  k_with "call ref" =>
    (k_here; (with_reducible show wpAny _ _ (call (Value.ref 208) [Value.int _ _, Value.int _ _]) _ _ _); k_dflt (refine' c_gcdn ?z232zcB ?z232zcF ?z232zcX ?z232zcN ?z232zcT ?z232zcK ?z232zcD ?z232zcU ?z232zp0 ?_; (case z232zcB => k_asm); (case z232zcF => k_asm); (case z232zcX => k_asm); (case z232zcN => k_asm); (case z232zcT => k_asm); (case z232zcK => first | exact rfl | assumption); (case z232zcD => walk_at "c dp"); (case z232zcU => walk_at "c un"); (case z232zp0 => with_reducible assumption); intro g' R' t' h' tk' F' N' e1 e2 e3 e4 e5 e6 e7; (try k_sweep); (try dsimp only); (try k_fold)))
  k_with "binaryOp FloorDiv int int" =>
    (with_reducible (refine' fdiv_ex ?z233ze ?z233zg ?z233zg4 ?_; (case z233ze => assumption); (case z233zg => assumption); (case z233zg4 => assumption)))
  k_with "exec While Compare" =>
    (k_dflt (refine whl_start 5 ?_))
  k_with "WhlIf" =>
    ((refine whlif_cases (fun hw9 => ?_) (fun hw9 => ?_)) <;> first | ((have hz9 := nice_yes (by assumption) hw9 (by omega)); obtain ⟨hz9, hz8⟩ := hz9; (try (exfalso; clear hz9; omega))) | (have hz9 := nice_no (by assumption) hw9))
  k_with "ite" =>
    first | (refine ite_neg (by first | with_reducible assumption | (simp only [beq_iff_eq, decide_eq_true_eq]; first | with_reducible assumption | omega)) ?_; walk_say "C PRUNED") | (refine ite_pos (by first | with_reducible assumption | (simp only [beq_iff_eq, decide_eq_true_eq]; first | with_reducible assumption | omega)) ?_; walk_say "C PRUNED")
  trivial
theorem c_exact {a da b db : Addr} {x y : Int} {ka1 ka2 ka3 ka4 kb1 kb2 kb3 kb4 : Tok} {n k : Nat} (B : Below A₀ base outer h₀) (F : Fr h₀ L s.heap m) (X : (Mine.hd0.heap_1 w.params).In h₀) (N : News h₀ L s.heap news) (T : Top VW LS mean mg mb h₀) (hk : cs.kind = .function) (hd : dp + 20 < recursionLimit) (hu : un + 200 < cLine)
    (ha : (a, instObj 155 da) ∈ news) (hda : (da, decObj w (x : Rat) ka1 ka2 ka3 ka4) ∈ news) (hq : DecQ (x : Rat) n)
    (hb : (b, instObj 155 db) ∈ news) (hdb : (db, decObj w (y : Rat) kb1 kb2 kb3 kb4) ∈ news) (hr : DecQ (y : Rat) k) (hn : n ≤ 1000) (hkk : k ≤ 1000) (hy : Nice y)
    (ret : RetDec w h₀ L m news s Q ((x : Rat) / (y : Rat)) (n + k + 4)) : wpAny (model PySem.Challenge.rw_qz0079_01.row.prog w) (ktrTop dp un gd cn cs L a₀ ccd cl outer) (call (.ref 215) [.ref a, .ref b]) Q E s := by
  have hy0 := nice_ne hy
  have hy4 := nice_le hy
  revert X; k_fill; intro X
  w_on
  refine wpAny_call ?_
  k_dflt ktr_enter
  k_steps
  all_goals (
    rename Fr h₀ L _ m => kF
    rename News h₀ L _ _ => kN
    rename _ = (Int.gcd _ _ : Int) => eg9
    rename @ite Int _ _ _ _ = _ * _ => eR9
    rename (_ : Int) % _ = 0 => hk9
    have e9 := quot_eq hy0 eg9 eR9 hk9
    (first | (rename DecQ (_ / _) _ => hq9; rw [e9] at kN hq9) | (rename DecQ ((Int.fdiv _ _ : Int) : Rat) _ => hq9; rw [div_ten0] at e9; rw [e9] at kN hq9))
    refine ret _ _ _ _ _ _ _ _ kF (cb_drop kN (by walk_at "c sub")) (by first | tbn_find | exact allLt_of (by assumption)) (by assumption) (DecQ.mono hq9 (by omega)))

end
end PartC9
section PartC10
theorem lines_C10_1 : True := by
  k_with_none
  k_with "c mem" =>
    first | ((with_reducible refine' mem_here ?z237zh9); (case z237zh9 => exact rfl)) | ((with_reducible refine' mem_nth 1 ?z237zh9); (case z237zh9 => exact rfl)) | ((with_reducible refine' mem_nth 2 ?z237zh9); (case z237zh9 => exact rfl)) | ((with_reducible refine' mem_nth 3 ?z237zh9); (case z237zh9 => exact rfl)) | ((with_reducible refine' mem_nth 4 ?z237zh9); (case z237zh9 => exact rfl)) | ((with_reducible refine' mem_nth 5 ?z237zh9); (case z237zh9 => exact rfl)) | ((with_reducible refine' mem_nth 6 ?z237zh9); (case z237zh9 => exact rfl)) | ((with_reducible refine' mem_nth 7 ?z237zh9); (case z237zh9 => exact rfl)) | ((with_reducible refine' mem_nth 8 ?z237zh9); (case z237zh9 => exact rfl)) | ((with_reducible refine' mem_nth 9 ?z237zh9); (case z237zh9 => exact rfl)) | ((with_reducible refine' mem_skip ?_); walk_at "c mem") | (with_reducible exact List.mem_append_left _ (by with_reducible assumption)) | ktr_member | ((with_reducible refine' List.mem_cons_of_mem _ ?_); walk_at "c mem") | ((with_reducible refine' List.mem_append_right _ ?_); walk_at "c mem")
  k_with "c room" =>
    with_reducible first | assumption | exact room1 (by assumption) rfl | exact room2 (by assumption) rfl | exact room3 (by assumption) rfl | exact room4 (by assumption) rfl
  k_with "c le" =>
    with_reducible first | assumption | exact Nat.le_trans (by assumption) (by decide)
  k_with "c lt1" =>
    with_reducible first | assumption | exact cj0 | exact cj1 | exact cj2 | exact cj3 | exact cj4 | exact cj5 | exact cj6 | exact cj7 | exact cj8 | exact cj9 | exact cj10 | exact cj11 | exact cj12 | exact cj13 | exact cj14 | exact cj15 | exact cj16 | exact cj17 | exact cj18 | exact cj19 | exact cj20 | exact cj21 | exact cj22 | exact cj23 | exact And.right (by with_reducible assumption) | exact And.right (And.right (by with_reducible assumption)) | exact And.right (And.right (And.right (by with_reducible assumption))) | exact And.right (And.right (And.right (And.right (by with_reducible assumption))))
  k_with "c lt2" =>
    ((with_reducible refine' Nat.lt_trans ?z241za9 ?z241zb9); (case z241zb9 => with_reducible assumption); (case z241za9 => walk_at "c lt1"))
  k_with "c lt" =>
    first | walk_at "c lt1" | walk_at "c lt2"
  k_with "c up3" =>
    with_reducible first | exact abv3 (by assumption) | exact abv3_1 (by assumption) | exact abv3_2 (by assumption) | exact abv3_3 (by assumption) | exact abv3_4 (by assumption) | (refine' Abv3.tr ?z243za9 ?z243zb9; (case z243za9 => assumption); (case z243zb9 => walk_at "c up3"))
  k_with "c ne" =>
    first | with_reducible (first | assumption | exact And.left (by assumption) | exact Ne.symm (And.left (by assumption)) | exact And.left (And.right (by assumption)) | exact Ne.symm (And.left (And.right (by assumption))) | exact And.right (And.right (by assumption)) | exact Ne.symm (And.right (And.right (by assumption))) | exact neq_lt (by assumption) | exact neq_gt (by assumption) | exact nl0 | exact nr0 | exact nl1 | exact nr1 | exact nl2 | exact nr2 | exact nl3 | exact nr3 | exact nl4 | exact nr4 | exact nl5 | exact nr5 | exact nl6 | exact nr6 | exact nl7 | exact nr7 | exact nl8 | exact nr8 | exact nl9 | exact nr9 | exact nl10 | exact nr10 | exact nl11 | exact nr11 | exact nl12 | exact nr12 | exact nl13 | exact nr13 | exact nl14 | exact nr14 | exact nl15 | exact nr15 | exact nl16 | exact nr16 | exact nl17 | exact nr17 | exact nl18 | exact nr18 | exact nl19 | exact nr19 | exact nl20 | exact nr20 | exact nl21 | exact nr21 | exact nl22 | exact nr22 | exact nl23 | exact nr23) | ((with_reducible refine' neq_lt ?z244zz9); (case z244zz9 => walk_at "c lt2")) | ((with_reducible refine' neq_gt ?z244zz9); (case z244zz9 => walk_at "c lt2")) | ((try dsimp only); omega)
  k_with "c dp" =>
    ((try simp only [depth_under_make, depth_under_kw, depth_in1, depth_deeper, depth_caller]); (try dsimp only [ktrTop]); first | walk_at "c room" | omega | decide)
  k_with "c un" =>
    ((try simp only [units_make, units_in1, units_deeper, Around.mark_units, units_caller]); (try dsimp only [ktrTop]); first | walk_at "c room" | omega | decide)
  k_with "c sub" =>
    first | (refine List.forall_mem_cons.mpr ⟨?z247za, ?z247zb⟩; (case z247za => walk_at "c mem"); (case z247zb => walk_at "c sub")) | exact List.forall_mem_nil _ | (intro p9 h9; (repeat (first | exact h9 | refine List.mem_cons_of_mem _ ?_ | refine List.mem_append_left _ ?_)))
  k_with "c bnd" =>
    with_reducible (first | assumption | exact Bnd.pow _ | (refine' Bnd.fdiv ?z248za; (case z248za => walk_at "c bnd")) | (exact Bnd.mul (by walk_at "c bnd") (by walk_at "c bnd")) | (exact Bnd.add1 (by walk_at "c bnd") (by walk_at "c bnd")) | (exact Bnd.sub1 (by walk_at "c bnd") (by walk_at "c bnd")) | (exact Bnd.add (by walk_at "c bnd") (by walk_at "c bnd")) | (exact Bnd.sub (by walk_at "c bnd") (by walk_at "c bnd")))
  k_with "c ar" =>
    first | assumption | decide | omega | (split <;> omega)
  k_with "c mul" =>
    exact mulOk_bnd (by walk_at "c bnd") (by walk_at "c bnd") (by walk_at "c ar") (by walk_at "c ar")
  k_with "binaryOp Pow int int" =>
    ((with_reducible refine pow_int_small ?z251zkb1 ?z251zkb2 ?z251zkb3 ?_); (case z251zkb1 => walk_at "c ar"); (case z251zkb2 => walk_at "c ar"); (case z251zkb3 => decide))
  k_with "call ref" =>
    (k_here; (with_reducible show wpAny _ _ (call (Prod.fst _) (_ ++ _)) _ _ _); dsimp only [List.nil_append, List.cons_append])
  k_with "subscriptTail" =>
    (k_here; (with_reducible show wpAny _ _ (subscriptTail _ _ (Value.ref _) (Value.int _ _)) _ _ _); k_dflt (first
    | (refine' item_tupleT ?z253zt ?z253za ?z253zb ?z253zc ?z253zd ?_; (case z253zt => exact News.isTup (by k_asm) (by k_mem)); (case z253za => decide); (case z253zb => decide); (case z253zc => exact rfl); (case z253zd => exact rfl); k_whole)
    | (refine' c_item ?z253zN ?z253zm ?z253za ?z253zb ?z253zc ?_ ?z253zz; (case z253zN => k_asm); (case z253zm => k_mem); (case z253za => decide); (case z253zb => decide); (case z253zc => exact rfl); (case z253zz => with_unfolding_all rfl); k_whole)))
  k_with "subscriptTail Name Constant ref int" =>
    (k_here; (with_reducible show wpAny _ _ (subscriptTail _ _ (Value.ref _) (Value.int _ _)) _ _ _); k_dflt (first
    | (refine' item_tupleT ?z254zt ?z254za ?z254zb ?z254zc ?z254zd ?_; (case z254zt => exact News.isTup (by k_asm) (by k_mem)); (case z254za => decide); (case z254zb => decide); (case z254zc => exact rfl); (case z254zd => exact rfl); k_whole)
    | (refine' c_item ?z254zN ?z254zm ?z254za ?z254zb ?z254zc ?_ ?z254zz; (case z254zN => k_asm); (case z254zm => k_mem); (case z254za => decide); (case z254zb => decide); (case z254zc => exact rfl); (case z254zz => with_unfolding_all rfl); k_whole)))
  trivial
section
variable {w : World} {mean : ExcName → Option Value} {mg mb : PySem.Str → Option Value} {dp un : Nat} {gd : Option (List Code)} {cn : PySem.Str} {cs : Scope} {a₀ : Addr} {ccd : Value} {cl : List (PySem.Str × Addr)} {outer : List Env}
  {A₀ : Around} {base h₀ : Heap} {L : Addr} {m : PySem.Str → Option Value} {s : Shared} {news : List (Addr × Obj)} {Q E : Value → Shared → Prop}
theorem lines_C10_2 : True := by
  k_with "call ref" =>
    (k_here; (with_reducible show wpAny _ _ (call (Value.ref 187) [Value.int _ _]) _ _ _); k_dflt (refine' c_of_int ?z255zcB ?z255zcF ?z255zcX ?z255zcN ?z255zcT ?z255zcK ?z255zcD ?z255zcU ?z255zp0 ?_; (case z255zcB => k_asm); (case z255zcF => k_asm); (case z255zcX => k_asm); (case z255zcN => k_asm); (case z255zcT => k_asm); (case z255zcK => first | exact rfl | assumption); (case z255zcD => walk_at "c dp"); (case z255zcU => walk_at "c un"); (case z255zp0 => walk_at "c bnd"); intro x' d' q1' q2' q3' q4' h' tk' F' N' l1 l2 hq'; (try simp only [AllLt, and_true] at l1); (try k_lt2 l2); (try k_sweep); (try dsimp only); (try k_fold)))
  k_with "call ref" =>
    (k_here; (with_reducible show wpAny _ _ (call (Value.ref 187) [Value.ref _]) _ _ _); k_dflt (refine' c_of_dec ?z256zcB ?z256zcF ?z256zcX ?z256zcN ?z256zcT ?z256zcK ?z256zcD ?z256zcU ?z256zp0 ?z256zp1 ?_; (case z256zcB => k_asm); (case z256zcF => k_asm); (case z256zcX => k_asm); (case z256zcN => k_asm); (case z256zcT => k_asm); (case z256zcK => first | exact rfl | assumption); (case z256zcD => walk_at "c dp"); (case z256zcU => walk_at "c un"); (case z256zp0 => k_mem); (case z256zp1 => k_mem); intro h' tk' F' N'; (try k_sweep); (try dsimp only); (try k_fold)))
  k_with "call ref" =>
    (k_here; (with_reducible show wpAny _ _ (call (Value.ref 82) [Value.ref _, Value.ref _]) _ _ _); k_dflt (refine' c_plus ?z257zcB ?z257zcF ?z257zcX ?z257zcN ?z257zcT ?z257zcK ?z257zcD ?z257zcU ?z257zp0 ?z257zp1 ?z257zp2 ?z257zp3 ?z257zp4 ?z257zp5 ?z257zp6 ?z257zp7 ?_; (case z257zcB => k_asm); (case z257zcF => k_asm); (case z257zcX => k_asm); (case z257zcN => k_asm); (case z257zcT => k_asm); (case z257zcK => first | exact rfl | assumption); (case z257zcD => walk_at "c dp"); (case z257zcU => walk_at "c un"); (case z257zp0 => k_mem); (case z257zp1 => k_mem); (case z257zp2 => with_reducible assumption); (case z257zp3 => k_mem); (case z257zp4 => k_mem); (case z257zp5 => with_reducible assumption); (case z257zp6 => first | walk_at "c le" | decide | omega); (case z257zp7 => first | walk_at "c le" | decide | omega); intro x' d' q1' q2' q3' q4' h' tk' F' N' l1 l2 hq'; (try simp only [AllLt, and_true] at l1); (try k_lt2 l2); (try k_sweep); (try dsimp only); (try k_fold)))
  k_with "call ref" =>
    (k_here; (with_reducible show wpAny _ _ (call (Value.ref 89) [Value.ref _, Value.ref _]) _ _ _); k_dflt (refine' c_minus ?z258zcB ?z258zcF ?z258zcX ?z258zcN ?z258zcT ?z258zcK ?z258zcD ?z258zcU ?z258zp0 ?z258zp1 ?z258zp2 ?z258zp3 ?z258zp4 ?z258zp5 ?z258zp6 ?z258zp7 ?_; (case z258zcB => k_asm); (case z258zcF => k_asm); (case z258zcX => k_asm); (case z258zcN => k_asm); (case z258zcT => k_asm); (case z258zcK => first | exact rfl | assumption); (case z258zcD => walk_at "c dp"); (case z258zcU => walk_at "c un"); (case z258zp0 => k_mem); (case z258zp1 => k_mem); (case z258zp2 => with_reducible assumption); (case z258zp3 => k_mem); (case z258zp4 => k_mem); (case z258zp5 => with_reducible assumption); (case z258zp6 => first | walk_at "c le" | decide | omega); (case z258zp7 => first | walk_at "c le" | decide | omega); intro x' d' q1' q2' q3' q4' h' tk' F' N' l1 l2 hq'; (try simp only [AllLt, and_true] at l1); (try k_lt2 l2); (try k_sweep); (try dsimp only); (try k_fold)))
  k_with "call ref" =>
    (k_here; (with_reducible show wpAny _ _ (call (Value.ref 96) [Value.ref _, Value.ref _]) _ _ _); k_dflt (refine' c_times ?z259zcB ?z259zcF ?z259zcX ?z259zcN ?z259zcT ?z259zcK ?z259zcD ?z259zcU ?z259zp0 ?z259zp1 ?z259zp2 ?z259zp3 ?z259zp4 ?z259zp5 ?z259zp6 ?z259zp7 ?_; (case z259zcB => k_asm); (case z259zcF => k_asm); (case z259zcX => k_asm); (case z259zcN => k_asm); (case z259zcT => k_asm); (case z259zcK => first | exact rfl | assumption); (case z259zcD => walk_at "c dp"); (case z259zcU => walk_at "c un"); (case z259zp0 => k_mem); (case z259zp1 => k_mem); (case z259zp2 => with_reducible assumption); (case z259zp3 => k_mem); (case z259zp4 => k_mem); (case z259zp5 => with_reducible assumption); (case z259zp6 => first | walk_at "c le" | decide | omega); (case z259zp7 => first | walk_at "c le" | decide | omega); intro x' d' q1' q2' q3' q4' h' tk' F' N' l1 l2 hq'; (try simp only [AllLt, and_true] at l1); (try k_lt2 l2); (try k_sweep); (try dsimp only); (try k_fold)))
  k_with "call ref" =>
    (k_here; (with_reducible show wpAny _ _ (call (Value.ref 110) [Value.ref _, Value.ref _]) _ _ _); k_dflt (refine' c_compared ?z260zcB ?z260zcF ?z260zcX ?z260zcN ?z260zcT ?z260zcK ?z260zcD ?z260zcU ?z260zp0 ?z260zp1 ?z260zp2 ?z260zp3 ?z260zp4 ?z260zp5 ?z260zp6 ?z260zp7 ?_; (case z260zcB => k_asm); (case z260zcF => k_asm); (case z260zcX => k_asm); (case z260zcN => k_asm); (case z260zcT => k_asm); (case z260zcK => first | exact rfl | assumption); (case z260zcD => walk_at "c dp"); (case z260zcU => walk_at "c un"); (case z260zp0 => k_mem); (case z260zp1 => k_mem); (case z260zp2 => with_reducible assumption); (case z260zp3 => k_mem); (case z260zp4 => k_mem); (case z260zp5 => with_reducible assumption); (case z260zp6 => first | walk_at "c le" | decide | omega); (case z260zp7 => first | walk_at "c le" | decide | omega); intro c' i1' h' tk' F' N' cC; (try k_sweep); (try dsimp only); (try k_fold)))
  k_with "call ref" =>
    (k_here; (with_reducible show wpAny _ _ (call (Value.ref 155) [Value.int _ _, Value.int 0 _]) _ _ _); k_dflt (refine' c_new0 ?z261zcB ?z261zcF ?z261zcX ?z261zcN ?z261zcT ?z261zcK ?z261zcD ?z261zcU ?z261zp0 ?_; (case z261zcB => k_asm); (case z261zcF => k_asm); (case z261zcX => k_asm); (case z261zcN => k_asm); (case z261zcT => k_asm); (case z261zcK => first | exact rfl | assumption); (case z261zcD => walk_at "c dp"); (case z261zcU => walk_at "c un"); (case z261zp0 => walk_at "c bnd"); intro x' d' q1' q2' q3' q4' h' tk' F' N' l1 l2 hq'; (try simp only [AllLt, and_true] at l1); (try k_lt2 l2); (try k_sweep); (try dsimp only); (try k_fold)))
  k_with "call ref" =>
    (k_here; (with_reducible show wpAny _ _ (call (Value.ref 279) [Value.ref _, Value.int 0 _, Value.int 0 _, Value.ref _, Value.ref _, Value.ref _]) _ _ _); k_dflt (refine' c_mat4 ?z262zcB ?z262zcF ?z262zcX ?z262zcN ?z262zcT ?z262zcK ?z262zcD ?z262zcU ?z262zp0 ?z262zp1 ?z262zp2 ?z262zp3 ?z262zp4 ?z262zp5 ?z262zp6 ?z262zp7 ?_; (case z262zcB => k_asm); (case z262zcF => k_asm); (case z262zcX => k_asm); (case z262zcN => k_asm); (case z262zcT => k_asm); (case z262zcK => first | exact rfl | assumption); (case z262zcD => walk_at "c dp"); (case z262zcU => walk_at "c un"); (case z262zp0 => k_mem); (case z262zp1 => k_mem); (case z262zp2 => k_mem); (case z262zp3 => k_mem); (case z262zp4 => k_mem); (case z262zp5 => k_mem); (case z262zp6 => k_mem); (case z262zp7 => k_mem); intro x' d' xb' db' xc' dc' k1' k2' k3' k4' k5' k6' kb1' kb2' kb3' kb4' kc1' kc2' kc3' kc4' h' tk' F' N' hq'; (try k_sweep); (try dsimp only); (try k_fold)))
  k_with "call ref" =>
    (k_here; (with_reducible show wpAny _ _ (call (Value.ref 257) [Value.ref _, Value.ref _, Value.ref _]) _ _ _); k_dflt (refine' c_applied ?z263zcB ?z263zcF ?z263zcX ?z263zcN ?z263zcT ?z263zcK ?z263zcD ?z263zcU ?z263zp0 ?z263zp1 ?z263zp2 ?z263zp3 ?z263zp4 ?z263zp5 ?z263zp6 ?z263zp7 ?z263zp8 ?z263zp9 ?z263zp10 ?z263zp11 ?z263zp12 ?z263zp13 ?z263zp14 ?z263zp15 ?z263zp16 ?z263zp17 ?z263zp18 ?z263zp19 ?z263zp20 ?z263zp21 ?z263zp22 ?z263zp23 ?z263zp24 ?z263zp25 ?z263zp26 ?z263zp27 ?z263zp28 ?_; (case z263zcB => k_asm); (case z263zcF => k_asm); (case z263zcX => k_asm); (case z263zcN => k_asm); (case z263zcT => k_asm); (case z263zcK => first | exact rfl | assumption); (case z263zcD => walk_at "c dp"); (case z263zcU => walk_at "c un"); (case z263zp0 => k_mem); (case z263zp1 => k_mem); (case z263zp2 => k_mem); (case z263zp3 => k_mem); (case z263zp4 => with_reducible assumption); (case z263zp5 => k_mem); (case z263zp6 => k_mem); (case z263zp7 => with_reducible assumption); (case z263zp8 => k_mem); (case z263zp9 => k_mem); (case z263zp10 => with_reducible assumption); (case z263zp11 => k_mem); (case z263zp12 => k_mem); (case z263zp13 => with_reducible assumption); (case z263zp14 => k_mem); (case z263zp15 => k_mem); (case z263zp16 => with_reducible assumption); (case z263zp17 => k_mem); (case z263zp18 => k_mem); (case z263zp19 => with_reducible assumption); (case z263zp20 => k_mem); (case z263zp21 => k_mem); (case z263zp22 => with_reducible assumption); (case z263zp23 => k_mem); (case z263zp24 => k_mem); (case z263zp25 => with_reducible assumption); (case z263zp26 => first | walk_at "c le" | decide | omega); (case z263zp27 => first | walk_at "c le" | decide | omega); (case z263zp28 => first | walk_at "c le" | decide | omega); intro t' u' du' v' dv' ku1' ku2' ku3' ku4' kv1' kv2' kv3' kv4' h' tk' F' N' l1 l2 l3 l4 l5 hq1' hq2'; (try simp only [AllLt, and_true] at l1); (try k_sweep); (try dsimp only); (try k_fold)))
  k_with "call ref" =>
    (k_here; (with_reducible show wpAny _ _ (call (Value.ref 215) [Value.ref _, Value.ref _]) _ _ _); k_dflt (refine' c_exact ?z264zcB ?z264zcF ?z264zcX ?z264zcN ?z264zcT ?z264zcK ?z264zcD ?z264zcU ?z264zp0 ?z264zp1 ?z264zp2 ?z264zp3 ?z264zp4 ?z264zp5 ?z264zp6 ?z264zp7 ?z264zp8 ?_; (case z264zcB => k_asm); (case z264zcF => k_asm); (case z264zcX => k_asm); (case z264zcN => k_asm); (case z264zcT => k_asm); (case z264zcK => first | exact rfl | assumption); (case z264zcD => walk_at "c dp"); (case z264zcU => walk_at "c un"); (case z264zp0 => k_mem); (case z264zp1 => k_mem); (case z264zp2 => with_reducible assumption); (case z264zp3 => k_mem); (case z264zp4 => k_mem); (case z264zp5 => with_reducible assumption); (case z264zp6 => first | walk_at "c le" | decide | omega); (case z264zp7 => first | walk_at "c le" | decide | omega); (case z264zp8 => with_reducible assumption); intro x' d' q1' q2' q3' q4' h' tk' F' N' l1 l2 hq'; (try simp only [AllLt, and_true] at l1); (try k_lt2 l2); (try k_sweep); (try dsimp only); (try k_fold)))
  k_with "c kept" =>
    first | exact Kept.done (by with_reducible assumption) | (refine' Kept.skipI ?z265zk9; (case z265zk9 => walk_at "c kept")) | (refine' Kept.skipC ?z265zk9; (case z265zk9 => walk_at "c kept")) | (refine' Kept.skipD ?z265zk9; (case z265zk9 => walk_at "c kept")) | ((with_reducible refine' Kept.takeF ?z265zu9 ?z265zk9); (case z265zu9 => with_reducible assumption); (case z265zk9 => walk_at "c kept")) | ((with_reducible refine' Kept.take3 ?z265zu9 ?z265zk9); (case z265zu9 => walk_at "c up3"); (case z265zk9 => walk_at "c kept")) | (refine' Kept.take ?z265za ?z265zb ?z265zc ?z265zk9; (case z265za => first | walk_at "c ne" | omega); (case z265zb => first | walk_at "c ne" | omega); (case z265zc => first | walk_at "c ne" | omega); (case z265zk9 => walk_at "c kept"))
  k_with "CompEnd" =>
    (k_dflt (refine' kept_end ?z266zF ?z266zN ?z266zk ?z266zi ?z266zc ?z266zd ?z266zs ?_; (case z266zF => k_asm); (case z266zN => k_asm); (case z266zk => with_reducible walk_at "c kept"); (case z266zi => k_mem); (case z266zc => k_mem); (case z266zd => k_mem); (case z266zs => first | exact True.intro | (refine' src_list ?z266zm1; (case z266zm1 => k_mem)) | exact Or.inl (by assumption))))
  k_with "CompRest" =>
    (with_unfolding_all first
    | (refine LCg.CompRest.succ ?_; intro v' I' oI' C' oC' D' m' h' tk' E' hv' hC' hx' F' N' off' ne'; (first | lcg_open hv' | (obtain ⟨t9', hv9'⟩ := hv'; subst hv9')))
    | refine LCg.CompRest.zero ?_)
  k_with "FinE" =>
    ((unfold LCg.FinE); intro D' h' tk' F' N' o1'; clear o1'; (try simp only [List.nil_append, List.cons_append] at N'); (try dsimp only))
  k_with "CompRestP" =>
    (with_unfolding_all first
    | (refine LCp.CompRestP.succ ?_; intro v' hv'; lcg_open hv'; refine ⟨_, _, _, _, _, rfl, by k_mem, rfl, rfl, ?_⟩; intro I' oI' C' oC' D' m' h' tk' E' hC' hx' hy' F' N' off' ne')
    | refine LCp.CompRestP.zero ?_)
  k_with "FinA" =>
    ((unfold LCg.FinA); intro D' h' tk' F' N' o1'; clear o1'; (try simp only [List.nil_append, List.cons_append] at N'); (try dsimp only))
  k_with "ite" =>
    first | (refine ite_neg (by first | with_reducible assumption | (simp only [beq_iff_eq, decide_eq_true_eq]; with_reducible assumption)) ?_; walk_say "C PRUNED") | (refine ite_pos (by first | with_reducible assumption | (simp only [beq_iff_eq, decide_eq_true_eq]; with_reducible assumption)) ?_; walk_say "C PRUNED")
  trivial

theorem c_stretch0 {y : Int} (B : Below A₀ base outer h₀) (F : Fr h₀ L s.heap m) (X : (Mine.hd0.heap_1 w.params).In h₀) (N : News h₀ L s.heap news) (T : Top VW LS mean mg mb h₀) (hk : cs.kind = .function) (hd : dp + 30 < recursionLimit) (hu : un + 300 < cLine) {n : Nat} {b db : Addr}  {kb1 kb2 kb3 kb4 : Tok} (hb : (b, instObj 155 db) ∈ news) (hdb : (db, decObj w ((y : Int) : Rat) kb1 kb2 kb3 kb4) ∈ news) (hqb : DecQ ((y : Int) : Rat) n) {aa : Addr} (hy : y = 0) {pl : Int} {tp : Tok} (hn : n ≤ 1000)
    (ret : RetDec w h₀ L m news s Q (1 : Rat) 3) : wpAny (model PySem.Challenge.rw_qz0079_01.row.prog w) (ktrTop dp un gd cn cs L a₀ ccd cl outer) (call (.ref 328) [.ref b, .ref aa, .int pl tp]) Q E s := by
  subst hy
  have z0 := dtop_int 0
  have z1 : Bnd 1 3 := Bnd.small (by omega) (by omega)
  revert X; k_fill; intro X
  w_on
  refine wpAny_call ?_
  k_dflt ktr_enter
  k_steps
  rename Fr h₀ L _ m => kF
  rename News h₀ L _ _ => kN
  refine ret _ _ _ _ _ _ _ _ kF (cb_drop kN (by walk_at "c sub")) (by first | tbn_find | exact allLt_of (by assumption)) (by assumption) (by assumption)
theorem c_stretch1 {x y : Int} (B : Below A₀ base outer h₀) (F : Fr h₀ L s.heap m) (X : (Mine.hd0.heap_1 w.params).In h₀) (N : News h₀ L s.heap news) (T : Top VW LS mean mg mb h₀) (hk : cs.kind = .function) (hd : dp + 30 < recursionLimit) (hu : un + 300 < cLine) {a da b db : Addr} {ka1 ka2 ka3 ka4 kb1 kb2 kb3 kb4 : Tok} {n k : Nat}
    (ha : (a, instObj 155 da) ∈ news) (hda : (da, decObj w (x : Rat) ka1 ka2 ka3 ka4) ∈ news) (hq : DecQ (x : Rat) n)
    (hb : (b, instObj 155 db) ∈ news) (hdb : (db, decObj w (y : Rat) kb1 kb2 kb3 kb4) ∈ news) (hr : DecQ (y : Rat) k) {pl : Int} {tp : Tok} (hn : n ≤ 1000) (hkk : k ≤ 1000) (hy : Nice y)
    (ret : RetDec w h₀ L m news s Q ((x : Rat) / (y : Rat)) (n + k + 4)) : wpAny (model PySem.Challenge.rw_qz0079_01.row.prog w) (ktrTop dp un gd cn cs L a₀ ccd cl outer) (call (.ref 328) [.ref b, .ref a, .int pl tp]) Q E s := by
  have z0 : ¬ dtop (y : Rat) = 0 := by rw [dtop_int]; exact nice_ne hy
  revert X; k_fill; intro X
  w_on
  refine wpAny_call ?_
  k_dflt ktr_enter
  k_steps
  rename Fr h₀ L _ m => kF
  rename News h₀ L _ _ => kN
  refine ret _ _ _ _ _ _ _ _ kF (cb_drop kN (by walk_at "c sub")) (by first | tbn_find | exact allLt_of (by assumption)) (by assumption) (by assumption)
theorem c_boxsize (B : Below A₀ base outer h₀) (F : Fr h₀ L s.heap m) (X : (Mine.hd0.heap_1 w.params).In h₀) (N : News h₀ L s.heap news) (T : Top VW LS mean mg mb h₀) (hk : cs.kind = .function) (hd : dp + 30 < recursionLimit) (hu : un + 300 < cLine) {f : Addr} {n : Nat} {a da : Addr} {qa : Rat} {ka1 ka2 ka3 ka4 : Tok} (ha : (a, instObj 155 da) ∈ news) (hda : (da, decObj w qa ka1 ka2 ka3 ka4) ∈ news) (hqa : DecQ qa n) {b db : Addr} {qb : Rat} {kb1 kb2 kb3 kb4 : Tok} (hb : (b, instObj 155 db) ∈ news) (hdb : (db, decObj w qb kb1 kb2 kb3 kb4) ∈ news) (hqb : DecQ qb n) {c dc : Addr} {qc : Rat} {kc1 kc2 kc3 kc4 : Tok} (hc : (c, instObj 155 dc) ∈ news) (hdc : (dc, decObj w qc kc1 kc2 kc3 kc4) ∈ news) (hqc : DecQ qc n) {d dd : Addr} {qd : Rat} {kd1 kd2 kd3 kd4 : Tok} (hd : (d, instObj 155 dd) ∈ news) (hdd : (dd, decObj w qd kd1 kd2 kd3 kd4) ∈ news) (hqd : DecQ qd n) (hf : (f, ({ cls := .type "tuple", data := .seq #[.ref a, .ref b, .ref c, .ref d] } : Obj)) ∈ news) (hn : n ≤ 1000) (ret : ∀ t u du v dv ku1 ku2 ku3 ku4 kv1 kv2 kv3 kv4 h' tk', Fr h₀ L h' m → News h₀ L h' ((t, ({ cls := .type "tuple", data := .seq #[.ref u, .ref v] } : Obj)) :: (u, instObj 155 du) :: (du, decObj w (qc - qa) ku1 ku2 ku3 ku4) :: (v, instObj 155 dv) :: (dv, decObj w (qd - qb) kv1 kv2 kv3 kv4) :: news) → DecQ (qc - qa) (n + n + 1) → DecQ (qd - qb) (n + n + 1) → Q (.ref t) { s with heap := h', toks := tk' }) : wpAny (model PySem.Challenge.rw_qz0079_01.row.prog w) (ktrTop dp un gd cn cs L a₀ ccd cl outer) (call (.ref 321) [.ref f]) Q E s := by
  revert X; k_fill; intro X
  w_on
  refine wpAny_call ?_
  k_dflt ktr_enter
  k_steps
  rename Fr h₀ L _ m => kF
  rename News h₀ L _ _ => kN
  exact ret _ _ _ _ _ _ _ _ _ _ _ _ _ _ _ kF (cb_drop kN (by walk_at "c sub")) (by with_reducible assumption) (by with_reducible assumption)
theorem c_corners (B : Below A₀ base outer h₀) (F : Fr h₀ L s.heap m) (X : (Mine.hd0.heap_1 w.params).In h₀) (N : News h₀ L s.heap news) (T : Top VW LS mean mg mb h₀) (hk : cs.kind = .function) (hd : dp + 30 < recursionLimit) (hu : un + 300 < cLine) {f : Addr} {a b c d : Addr} (hf : (f, ({ cls := .type "tuple", data := .seq #[.ref a, .ref b, .ref c, .ref d] } : Obj)) ∈ news) (ret : ∀ l n9 t1 t2 t3 t4 h' tk', Fr h₀ L h' m → News h₀ L h' ((l, listOf #[.ref t1, .ref t2, .ref t3, .ref t4] n9) :: (t1, ({ cls := .type "tuple", data := .seq #[.ref a, .ref b] } : Obj)) :: (t2, ({ cls := .type "tuple", data := .seq #[.ref c, .ref b] } : Obj)) :: (t3, ({ cls := .type "tuple", data := .seq #[.ref c, .ref d] } : Obj)) :: (t4, ({ cls := .type "tuple", data := .seq #[.ref a, .ref d] } : Obj)) :: news) → Q (.ref l) { s with heap := h', toks := tk' }) : wpAny (model PySem.Challenge.rw_qz0079_01.row.prog w) (ktrTop dp un gd cn cs L a₀ ccd cl outer) (call (.ref 309) [.ref f]) Q E s := by
  revert X; k_fill; intro X
  w_on
  refine wpAny_call ?_
  k_dflt ktr_enter
  k_steps
  rename Fr h₀ L _ m => kF
  rename News h₀ L _ _ => kN
  exact ret _ _ _ _ _ _ _ _ kF (cb_drop kN (by walk_at "c sub"))
end
end PartC10
section PartC11
theorem lines_C11_1 : True := by
  k_with_none
  k_with "c mem" =>
    first | ((with_reducible refine' mem_here ?z272zh9); (case z272zh9 => exact rfl)) | ((with_reducible refine' mem_nth 1 ?z272zh9); (case z272zh9 => exact rfl)) | ((with_reducible refine' mem_nth 2 ?z272zh9); (case z272zh9 => exact rfl)) | ((with_reducible refine' mem_nth 3 ?z272zh9); (case z272zh9 => exact rfl)) | ((with_reducible refine' mem_nth 4 ?z272zh9); (case z272zh9 => exact rfl)) | ((with_reducible refine' mem_nth 5 ?z272zh9); (case z272zh9 => exact rfl)) | ((with_reducible refine' mem_nth 6 ?z272zh9); (case z272zh9 => exact rfl)) | ((with_reducible refine' mem_nth 7 ?z272zh9); (case z272zh9 => exact rfl)) | ((with_reducible refine' mem_nth 8 ?z272zh9); (case z272zh9 => exact rfl)) | ((with_reducible refine' mem_nth 9 ?z272zh9); (case z272zh9 => exact rfl)) | ((with_reducible refine' mem_skip ?_); walk_at "c mem") | (with_reducible exact List.mem_append_left _ (by with_reducible assumption)) | ktr_member | ((with_reducible refine' List.mem_cons_of_mem _ ?_); walk_at "c mem") | ((with_reducible refine' List.mem_append_right _ ?_); walk_at "c mem")
  k_with "c room" =>
    with_reducible first | assumption | exact room1 (by assumption) rfl | exact room2 (by assumption) rfl | exact room3 (by assumption) rfl | exact room4 (by assumption) rfl
  k_with "c le" =>
    with_reducible first | assumption | exact Nat.le_trans (by assumption) (by decide)
  k_with "c lt1" =>
    with_reducible first | assumption | exact cj0 | exact cj1 | exact cj2 | exact cj3 | exact cj4 | exact cj5 | exact cj6 | exact cj7 | exact cj8 | exact cj9 | exact cj10 | exact cj11 | exact cj12 | exact cj13 | exact cj14 | exact cj15 | exact cj16 | exact cj17 | exact cj18 | exact cj19 | exact cj20 | exact cj21 | exact cj22 | exact cj23 | exact And.right (by with_reducible assumption) | exact And.right (And.right (by with_reducible assumption)) | exact And.right (And.right (And.right (by with_reducible assumption))) | exact And.right (And.right (And.right (And.right (by with_reducible assumption))))
  k_with "c lt2" =>
    ((with_reducible refine' Nat.lt_trans ?z276za9 ?z276zb9); (case z276zb9 => with_reducible assumption); (case z276za9 => walk_at "c lt1"))
  k_with "c lt" =>
    first | walk_at "c lt1" | walk_at "c lt2"
  k_with "c up3" =>
    with_reducible first | exact abv3 (by assumption) | exact abv3_1 (by assumption) | exact abv3_2 (by assumption) | exact abv3_3 (by assumption) | exact abv3_4 (by assumption) | (refine' Abv3.tr ?z278za9 ?z278zb9; (case z278za9 => assumption); (case z278zb9 => walk_at "c up3"))
  k_with "c ne" =>
    first | with_reducible (first | assumption | exact And.left (by assumption) | exact Ne.symm (And.left (by assumption)) | exact And.left (And.right (by assumption)) | exact Ne.symm (And.left (And.right (by assumption))) | exact And.right (And.right (by assumption)) | exact Ne.symm (And.right (And.right (by assumption))) | exact neq_lt (by assumption) | exact neq_gt (by assumption) | exact nl0 | exact nr0 | exact nl1 | exact nr1 | exact nl2 | exact nr2 | exact nl3 | exact nr3 | exact nl4 | exact nr4 | exact nl5 | exact nr5 | exact nl6 | exact nr6 | exact nl7 | exact nr7 | exact nl8 | exact nr8 | exact nl9 | exact nr9 | exact nl10 | exact nr10 | exact nl11 | exact nr11 | exact nl12 | exact nr12 | exact nl13 | exact nr13 | exact nl14 | exact nr14 | exact nl15 | exact nr15 | exact nl16 | exact nr16 | exact nl17 | exact nr17 | exact nl18 | exact nr18 | exact nl19 | exact nr19 | exact nl20 | exact nr20 | exact nl21 | exact nr21 | exact nl22 | exact nr22 | exact nl23 | exact nr23) | ((with_reducible refine' neq_lt ?z279zz9); (case z279zz9 => walk_at "c lt2")) | ((with_reducible refine' neq_gt ?z279zz9); (case z279zz9 => walk_at "c lt2")) | ((try dsimp only); omega)
  k_with "c dp" =>
    ((try simp only [depth_under_make, depth_under_kw, depth_in1, depth_deeper, depth_caller]); (try dsimp only [ktrTop]); first | walk_at "c room" | omega | decide)
  k_with "c un" =>
    ((try simp only [units_make, units_in1, units_deeper, Around.mark_units, units_caller]); (try dsimp only [ktrTop]); first | walk_at "c room" | omega | decide)
  k_with "c sub" =>
    first | (refine List.forall_mem_cons.mpr ⟨?z282za, ?z282zb⟩; (case z282za => walk_at "c mem"); (case z282zb => walk_at "c sub")) | exact List.forall_mem_nil _ | (intro p9 h9; (repeat (first | exact h9 | refine List.mem_cons_of_mem _ ?_ | refine List.mem_append_left _ ?_)))
  k_with "c bnd" =>
    with_reducible (first | assumption | exact Bnd.pow _ | (refine' Bnd.fdiv ?z283za; (case z283za => walk_at "c bnd")) | (exact Bnd.mul (by walk_at "c bnd") (by walk_at "c bnd")) | (exact Bnd.add1 (by walk_at "c bnd") (by walk_at "c bnd")) | (exact Bnd.sub1 (by walk_at "c bnd") (by walk_at "c bnd")) | (exact Bnd.add (by walk_at "c bnd") (by walk_at "c bnd")) | (exact Bnd.sub (by walk_at "c bnd") (by walk_at "c bnd")))
  k_with "c ar" =>
    first | assumption | decide | omega | (split <;> omega)
  k_with "c mul" =>
    exact mulOk_bnd (by walk_at "c bnd") (by walk_at "c bnd") (by walk_at "c ar") (by walk_at "c ar")
  k_with "binaryOp Pow int int" =>
    ((with_reducible refine pow_int_small ?z286zkb1 ?z286zkb2 ?z286zkb3 ?_); (case z286zkb1 => walk_at "c ar"); (case z286zkb2 => walk_at "c ar"); (case z286zkb3 => decide))
  k_with "call ref" =>
    (k_here; (with_reducible show wpAny _ _ (call (Prod.fst _) (_ ++ _)) _ _ _); dsimp only [List.nil_append, List.cons_append])
  k_with "subscriptTail" =>
    (k_here; (with_reducible show wpAny _ _ (subscriptTail _ _ (Value.ref _) (Value.int _ _)) _ _ _); k_dflt (first
    | (refine' item_tupleT ?z288zt ?z288za ?z288zb ?z288zc ?z288zd ?_; (case z288zt => exact News.isTup (by k_asm) (by k_mem)); (case z288za => decide); (case z288zb => decide); (case z288zc => exact rfl); (case z288zd => exact rfl); k_whole)
    | (refine' c_item ?z288zN ?z288zm ?z288za ?z288zb ?z288zc ?_ ?z288zz; (case z288zN => k_asm); (case z288zm => k_mem); (case z288za => decide); (case z288zb => decide); (case z288zc => exact rfl); (case z288zz => with_unfolding_all rfl); k_whole)))
  k_with "subscriptTail Name Constant ref int" =>
    (k_here; (with_reducible show wpAny _ _ (subscriptTail _ _ (Value.ref _) (Value.int _ _)) _ _ _); k_dflt (first
    | (refine' item_tupleT ?z289zt ?z289za ?z289zb ?z289zc ?z289zd ?_; (case z289zt => exact News.isTup (by k_asm) (by k_mem)); (case z289za => decide); (case z289zb => decide); (case z289zc => exact rfl); (case z289zd => exact rfl); k_whole)
    | (refine' c_item ?z289zN ?z289zm ?z289za ?z289zb ?z289zc ?_ ?z289zz; (case z289zN => k_asm); (case z289zm => k_mem); (case z289za => decide); (case z289zb => decide); (case z289zc => exact rfl); (case z289zz => with_unfolding_all rfl); k_whole)))
  trivial
section
variable {w : World} {mean : ExcName → Option Value} {mg mb : PySem.Str → Option Value} {dp un : Nat} {gd : Option (List Code)} {cn : PySem.Str} {cs : Scope} {a₀ : Addr} {ccd : Value} {cl : List (PySem.Str × Addr)} {outer : List Env}
  {A₀ : Around} {base h₀ : Heap} {L : Addr} {m : PySem.Str → Option Value} {s : Shared} {news : List (Addr × Obj)} {Q E : Value → Shared → Prop}
theorem lines_C11_2 : True := by
  k_with "call ref" =>
    (k_here; (with_reducible show wpAny _ _ (call (Value.ref 187) [Value.int _ _]) _ _ _); k_dflt (refine' c_of_int ?z290zcB ?z290zcF ?z290zcX ?z290zcN ?z290zcT ?z290zcK ?z290zcD ?z290zcU ?z290zp0 ?_; (case z290zcB => k_asm); (case z290zcF => k_asm); (case z290zcX => k_asm); (case z290zcN => k_asm); (case z290zcT => k_asm); (case z290zcK => first | exact rfl | assumption); (case z290zcD => walk_at "c dp"); (case z290zcU => walk_at "c un"); (case z290zp0 => walk_at "c bnd"); intro x' d' q1' q2' q3' q4' h' tk' F' N' l1 l2 hq'; (try simp only [AllLt, and_true] at l1); (try k_lt2 l2); (try k_sweep); (try dsimp only); (try k_fold)))
  k_with "call ref" =>
    (k_here; (with_reducible show wpAny _ _ (call (Value.ref 187) [Value.ref _]) _ _ _); k_dflt (refine' c_of_dec ?z291zcB ?z291zcF ?z291zcX ?z291zcN ?z291zcT ?z291zcK ?z291zcD ?z291zcU ?z291zp0 ?z291zp1 ?_; (case z291zcB => k_asm); (case z291zcF => k_asm); (case z291zcX => k_asm); (case z291zcN => k_asm); (case z291zcT => k_asm); (case z291zcK => first | exact rfl | assumption); (case z291zcD => walk_at "c dp"); (case z291zcU => walk_at "c un"); (case z291zp0 => k_mem); (case z291zp1 => k_mem); intro h' tk' F' N'; (try k_sweep); (try dsimp only); (try k_fold)))
  k_with "call ref" =>
    (k_here; (with_reducible show wpAny _ _ (call (Value.ref 82) [Value.ref _, Value.ref _]) _ _ _); k_dflt (refine' c_plus ?z292zcB ?z292zcF ?z292zcX ?z292zcN ?z292zcT ?z292zcK ?z292zcD ?z292zcU ?z292zp0 ?z292zp1 ?z292zp2 ?z292zp3 ?z292zp4 ?z292zp5 ?z292zp6 ?z292zp7 ?_; (case z292zcB => k_asm); (case z292zcF => k_asm); (case z292zcX => k_asm); (case z292zcN => k_asm); (case z292zcT => k_asm); (case z292zcK => first | exact rfl | assumption); (case z292zcD => walk_at "c dp"); (case z292zcU => walk_at "c un"); (case z292zp0 => k_mem); (case z292zp1 => k_mem); (case z292zp2 => with_reducible assumption); (case z292zp3 => k_mem); (case z292zp4 => k_mem); (case z292zp5 => with_reducible assumption); (case z292zp6 => first | walk_at "c le" | decide | omega); (case z292zp7 => first | walk_at "c le" | decide | omega); intro x' d' q1' q2' q3' q4' h' tk' F' N' l1 l2 hq'; (try simp only [AllLt, and_true] at l1); (try k_lt2 l2); (try k_sweep); (try dsimp only); (try k_fold)))
  k_with "call ref" =>
    (k_here; (with_reducible show wpAny _ _ (call (Value.ref 89) [Value.ref _, Value.ref _]) _ _ _); k_dflt (refine' c_minus ?z293zcB ?z293zcF ?z293zcX ?z293zcN ?z293zcT ?z293zcK ?z293zcD ?z293zcU ?z293zp0 ?z293zp1 ?z293zp2 ?z293zp3 ?z293zp4 ?z293zp5 ?z293zp6 ?z293zp7 ?_; (case z293zcB => k_asm); (case z293zcF => k_asm); (case z293zcX => k_asm); (case z293zcN => k_asm); (case z293zcT => k_asm); (case z293zcK => first | exact rfl | assumption); (case z293zcD => walk_at "c dp"); (case z293zcU => walk_at "c un"); (case z293zp0 => k_mem); (case z293zp1 => k_mem); (case z293zp2 => with_reducible assumption); (case z293zp3 => k_mem); (case z293zp4 => k_mem); (case z293zp5 => with_reducible assumption); (case z293zp6 => first | walk_at "c le" | decide | omega); (case z293zp7 => first | walk_at "c le" | decide | omega); intro x' d' q1' q2' q3' q4' h' tk' F' N' l1 l2 hq'; (try simp only [AllLt, and_true] at l1); (try k_lt2 l2); (try k_sweep); (try dsimp only); (try k_fold)))
  k_with "call ref" =>
    (k_here; (with_reducible show wpAny _ _ (call (Value.ref 96) [Value.ref _, Value.ref _]) _ _ _); k_dflt (refine' c_times ?z294zcB ?z294zcF ?z294zcX ?z294zcN ?z294zcT ?z294zcK ?z294zcD ?z294zcU ?z294zp0 ?z294zp1 ?z294zp2 ?z294zp3 ?z294zp4 ?z294zp5 ?z294zp6 ?z294zp7 ?_; (case z294zcB => k_asm); (case z294zcF => k_asm); (case z294zcX => k_asm); (case z294zcN => k_asm); (case z294zcT => k_asm); (case z294zcK => first | exact rfl | assumption); (case z294zcD => walk_at "c dp"); (case z294zcU => walk_at "c un"); (case z294zp0 => k_mem); (case z294zp1 => k_mem); (case z294zp2 => with_reducible assumption); (case z294zp3 => k_mem); (case z294zp4 => k_mem); (case z294zp5 => with_reducible assumption); (case z294zp6 => first | walk_at "c le" | decide | omega); (case z294zp7 => first | walk_at "c le" | decide | omega); intro x' d' q1' q2' q3' q4' h' tk' F' N' l1 l2 hq'; (try simp only [AllLt, and_true] at l1); (try k_lt2 l2); (try k_sweep); (try dsimp only); (try k_fold)))
  k_with "call ref" =>
    (k_here; (with_reducible show wpAny _ _ (call (Value.ref 110) [Value.ref _, Value.ref _]) _ _ _); k_dflt (refine' c_compared ?z295zcB ?z295zcF ?z295zcX ?z295zcN ?z295zcT ?z295zcK ?z295zcD ?z295zcU ?z295zp0 ?z295zp1 ?z295zp2 ?z295zp3 ?z295zp4 ?z295zp5 ?z295zp6 ?z295zp7 ?_; (case z295zcB => k_asm); (case z295zcF => k_asm); (case z295zcX => k_asm); (case z295zcN => k_asm); (case z295zcT => k_asm); (case z295zcK => first | exact rfl | assumption); (case z295zcD => walk_at "c dp"); (case z295zcU => walk_at "c un"); (case z295zp0 => k_mem); (case z295zp1 => k_mem); (case z295zp2 => with_reducible assumption); (case z295zp3 => k_mem); (case z295zp4 => k_mem); (case z295zp5 => with_reducible assumption); (case z295zp6 => first | walk_at "c le" | decide | omega); (case z295zp7 => first | walk_at "c le" | decide | omega); intro c' i1' h' tk' F' N' cC; (try k_sweep); (try dsimp only); (try k_fold)))
  k_with "call ref" =>
    (k_here; (with_reducible show wpAny _ _ (call (Value.ref 155) [Value.int _ _, Value.int 0 _]) _ _ _); k_dflt (refine' c_new0 ?z296zcB ?z296zcF ?z296zcX ?z296zcN ?z296zcT ?z296zcK ?z296zcD ?z296zcU ?z296zp0 ?_; (case z296zcB => k_asm); (case z296zcF => k_asm); (case z296zcX => k_asm); (case z296zcN => k_asm); (case z296zcT => k_asm); (case z296zcK => first | exact rfl | assumption); (case z296zcD => walk_at "c dp"); (case z296zcU => walk_at "c un"); (case z296zp0 => walk_at "c bnd"); intro x' d' q1' q2' q3' q4' h' tk' F' N' l1 l2 hq'; (try simp only [AllLt, and_true] at l1); (try k_lt2 l2); (try k_sweep); (try dsimp only); (try k_fold)))
  k_with "call ref" =>
    (k_here; (with_reducible show wpAny _ _ (call (Value.ref 279) [Value.ref _, Value.int 0 _, Value.int 0 _, Value.ref _, Value.ref _, Value.ref _]) _ _ _); k_dflt (refine' c_mat4 ?z297zcB ?z297zcF ?z297zcX ?z297zcN ?z297zcT ?z297zcK ?z297zcD ?z297zcU ?z297zp0 ?z297zp1 ?z297zp2 ?z297zp3 ?z297zp4 ?z297zp5 ?z297zp6 ?z297zp7 ?_; (case z297zcB => k_asm); (case z297zcF => k_asm); (case z297zcX => k_asm); (case z297zcN => k_asm); (case z297zcT => k_asm); (case z297zcK => first | exact rfl | assumption); (case z297zcD => walk_at "c dp"); (case z297zcU => walk_at "c un"); (case z297zp0 => k_mem); (case z297zp1 => k_mem); (case z297zp2 => k_mem); (case z297zp3 => k_mem); (case z297zp4 => k_mem); (case z297zp5 => k_mem); (case z297zp6 => k_mem); (case z297zp7 => k_mem); intro x' d' xb' db' xc' dc' k1' k2' k3' k4' k5' k6' kb1' kb2' kb3' kb4' kc1' kc2' kc3' kc4' h' tk' F' N' hq'; (try k_sweep); (try dsimp only); (try k_fold)))
  k_with "call ref" =>
    (k_here; (with_reducible show wpAny _ _ (call (Value.ref 257) [Value.ref _, Value.ref _, Value.ref _]) _ _ _); k_dflt (refine' c_applied ?z298zcB ?z298zcF ?z298zcX ?z298zcN ?z298zcT ?z298zcK ?z298zcD ?z298zcU ?z298zp0 ?z298zp1 ?z298zp2 ?z298zp3 ?z298zp4 ?z298zp5 ?z298zp6 ?z298zp7 ?z298zp8 ?z298zp9 ?z298zp10 ?z298zp11 ?z298zp12 ?z298zp13 ?z298zp14 ?z298zp15 ?z298zp16 ?z298zp17 ?z298zp18 ?z298zp19 ?z298zp20 ?z298zp21 ?z298zp22 ?z298zp23 ?z298zp24 ?z298zp25 ?z298zp26 ?z298zp27 ?z298zp28 ?_; (case z298zcB => k_asm); (case z298zcF => k_asm); (case z298zcX => k_asm); (case z298zcN => k_asm); (case z298zcT => k_asm); (case z298zcK => first | exact rfl | assumption); (case z298zcD => walk_at "c dp"); (case z298zcU => walk_at "c un"); (case z298zp0 => k_mem); (case z298zp1 => k_mem); (case z298zp2 => k_mem); (case z298zp3 => k_mem); (case z298zp4 => with_reducible assumption); (case z298zp5 => k_mem); (case z298zp6 => k_mem); (case z298zp7 => with_reducible assumption); (case z298zp8 => k_mem); (case z298zp9 => k_mem); (case z298zp10 => with_reducible assumption); (case z298zp11 => k_mem); (case z298zp12 => k_mem); (case z298zp13 => with_reducible assumption); (case z298zp14 => k_mem); (case z298zp15 => k_mem); (case z298zp16 => with_reducible assumption); (case z298zp17 => k_mem); (case z298zp18 => k_mem); (case z298zp19 => with_reducible assumption); (case z298zp20 => k_mem); (case z298zp21 => k_mem); (case z298zp22 => with_reducible assumption); (case z298zp23 => k_mem); (case z298zp24 => k_mem); (case z298zp25 => with_reducible assumption); (case z298zp26 => first | walk_at "c le" | decide | omega); (case z298zp27 => first | walk_at "c le" | decide | omega); (case z298zp28 => first | walk_at "c le" | decide | omega); intro t' u' du' v' dv' ku1' ku2' ku3' ku4' kv1' kv2' kv3' kv4' h' tk' F' N' l1 l2 l3 l4 l5 hq1' hq2'; (try simp only [AllLt, and_true] at l1); (try k_sweep); (try dsimp only); (try k_fold)))
  k_with "call ref" =>
    (k_here; (with_reducible show wpAny _ _ (call (Value.ref 222) [Value.ref _]) _ _ _); k_dflt (refine' c_least4 ?z299zcB ?z299zcF ?z299zcX ?z299zcN ?z299zcT ?z299zcK ?z299zcD ?z299zcU ?z299zp0 ?z299zp1 ?z299zp2 ?z299zp3 ?z299zp4 ?z299zp5 ?z299zp6 ?z299zp7 ?z299zp8 ?z299zp9 ?z299zp10 ?z299zp11 ?z299zp12 ?z299zp13 ?_; (case z299zcB => k_asm); (case z299zcF => k_asm); (case z299zcX => k_asm); (case z299zcN => k_asm); (case z299zcT => k_asm); (case z299zcK => first | exact rfl | assumption); (case z299zcD => walk_at "c dp"); (case z299zcU => walk_at "c un"); (case z299zp12 => k_mem); (case z299zp0 => k_mem); (case z299zp1 => k_mem); (case z299zp2 => with_reducible assumption); (case z299zp3 => k_mem); (case z299zp4 => k_mem); (case z299zp5 => with_reducible assumption); (case z299zp6 => k_mem); (case z299zp7 => k_mem); (case z299zp8 => with_reducible assumption); (case z299zp9 => k_mem); (case z299zp10 => k_mem); (case z299zp11 => with_reducible assumption); (case z299zp13 => first | walk_at "c le" | decide | omega); intro x' d' q1' q2' q3' q4' qq' h' tk' F' N' hq' eq'; subst eq'; (try k_sweep); (try dsimp only); (try k_fold)))
  k_with "call ref" =>
    (k_here; (with_reducible show wpAny _ _ (call (Value.ref 229) [Value.ref _]) _ _ _); k_dflt (refine' c_great4 ?z300zcB ?z300zcF ?z300zcX ?z300zcN ?z300zcT ?z300zcK ?z300zcD ?z300zcU ?z300zp0 ?z300zp1 ?z300zp2 ?z300zp3 ?z300zp4 ?z300zp5 ?z300zp6 ?z300zp7 ?z300zp8 ?z300zp9 ?z300zp10 ?z300zp11 ?z300zp12 ?z300zp13 ?_; (case z300zcB => k_asm); (case z300zcF => k_asm); (case z300zcX => k_asm); (case z300zcN => k_asm); (case z300zcT => k_asm); (case z300zcK => first | exact rfl | assumption); (case z300zcD => walk_at "c dp"); (case z300zcU => walk_at "c un"); (case z300zp12 => k_mem); (case z300zp0 => k_mem); (case z300zp1 => k_mem); (case z300zp2 => with_reducible assumption); (case z300zp3 => k_mem); (case z300zp4 => k_mem); (case z300zp5 => with_reducible assumption); (case z300zp6 => k_mem); (case z300zp7 => k_mem); (case z300zp8 => with_reducible assumption); (case z300zp9 => k_mem); (case z300zp10 => k_mem); (case z300zp11 => with_reducible assumption); (case z300zp13 => first | walk_at "c le" | decide | omega); intro x' d' q1' q2' q3' q4' qq' h' tk' F' N' hq' eq'; subst eq'; (try k_sweep); (try dsimp only); (try k_fold)))
  k_with "c kept" =>
    first | exact Kept.done (by with_reducible assumption) | (refine' Kept.skipI ?z301zk9; (case z301zk9 => walk_at "c kept")) | (refine' Kept.skipC ?z301zk9; (case z301zk9 => walk_at "c kept")) | (refine' Kept.skipD ?z301zk9; (case z301zk9 => walk_at "c kept")) | ((with_reducible refine' Kept.takeF ?z301zu9 ?z301zk9); (case z301zu9 => with_reducible assumption); (case z301zk9 => walk_at "c kept")) | ((with_reducible refine' Kept.take3 ?z301zu9 ?z301zk9); (case z301zu9 => walk_at "c up3"); (case z301zk9 => walk_at "c kept")) | (refine' Kept.take ?z301za ?z301zb ?z301zc ?z301zk9; (case z301za => first | walk_at "c ne" | omega); (case z301zb => first | walk_at "c ne" | omega); (case z301zc => first | walk_at "c ne" | omega); (case z301zk9 => walk_at "c kept"))
  k_with "CompEnd" =>
    (k_dflt (refine' kept_end ?z302zF ?z302zN ?z302zk ?z302zi ?z302zc ?z302zd ?z302zs ?_; (case z302zF => k_asm); (case z302zN => k_asm); (case z302zk => with_reducible walk_at "c kept"); (case z302zi => k_mem); (case z302zc => k_mem); (case z302zd => k_mem); (case z302zs => first | exact True.intro | (refine' src_list ?z302zm1; (case z302zm1 => k_mem)) | exact Or.inl (by assumption))))
  k_with "CompRest" =>
    (with_unfolding_all first
    | (refine LCg.CompRest.succ ?_; intro v' I' oI' C' oC' D' m' h' tk' E' hv' hC' hx' F' N' off' ne'; (first | lcg_open hv' | (obtain ⟨t9', hv9'⟩ := hv'; subst hv9')))
    | refine LCg.CompRest.zero ?_)
  k_with "FinE" =>
    ((unfold LCg.FinE); intro D' h' tk' F' N' o1'; clear o1'; (try simp only [List.nil_append, List.cons_append] at N'); (try dsimp only))
  k_with "CompRestP" =>
    (with_unfolding_all first
    | (refine LCp.CompRestP.succ ?_; intro v' hv'; lcg_open hv'; refine ⟨_, _, _, _, _, rfl, by k_mem, rfl, rfl, ?_⟩; intro I' oI' C' oC' D' m' h' tk' E' hC' hx' hy' F' N' off' ne')
    | refine LCp.CompRestP.zero ?_)
  k_with "FinA" =>
    ((unfold LCg.FinA); intro D' h' tk' F' N' o1'; clear o1'; (try simp only [List.nil_append, List.cons_append] at N'); (try dsimp only))
  trivial

theorem c_boxof (B : Below A₀ base outer h₀) (F : Fr h₀ L s.heap m) (X : (Mine.hd0.heap_1 w.params).In h₀) (N : News h₀ L s.heap news) (T : Top VW LS mean mg mb h₀) (hk : cs.kind = .function) (hd : dp + 40 < recursionLimit) (hu : un + 400 < cLine) {l : Addr} {n9 : Nat} {p1 p2 p3 p4 : Addr} {n : Nat} {a da : Addr} {qa : Rat} {ka1 ka2 ka3 ka4 : Tok} (ha : (a, instObj 155 da) ∈ news) (hda : (da, decObj w qa ka1 ka2 ka3 ka4) ∈ news) (hqa : DecQ qa n) {b db : Addr} {qb : Rat} {kb1 kb2 kb3 kb4 : Tok} (hb : (b, instObj 155 db) ∈ news) (hdb : (db, decObj w qb kb1 kb2 kb3 kb4) ∈ news) (hqb : DecQ qb n) {c dc : Addr} {qc : Rat} {kc1 kc2 kc3 kc4 : Tok} (hc : (c, instObj 155 dc) ∈ news) (hdc : (dc, decObj w qc kc1 kc2 kc3 kc4) ∈ news) (hqc : DecQ qc n) {d dd : Addr} {qd : Rat} {kd1 kd2 kd3 kd4 : Tok} (hd : (d, instObj 155 dd) ∈ news) (hdd : (dd, decObj w qd kd1 kd2 kd3 kd4) ∈ news) (hqd : DecQ qd n) {e de : Addr} {qe : Rat} {ke1 ke2 ke3 ke4 : Tok} (he : (e, instObj 155 de) ∈ news) (hde : (de, decObj w qe ke1 ke2 ke3 ke4) ∈ news) (hqe : DecQ qe n) {f df : Addr} {qf : Rat} {kf1 kf2 kf3 kf4 : Tok} (hf : (f, instObj 155 df) ∈ news) (hdf : (df, decObj w qf kf1 kf2 kf3 kf4) ∈ news) (hqf : DecQ qf n) {g dg : Addr} {qg : Rat} {kg1 kg2 kg3 kg4 : Tok} (hg : (g, instObj 155 dg) ∈ news) (hdg : (dg, decObj w qg kg1 kg2 kg3 kg4) ∈ news) (hqg : DecQ qg n) {h dh : Addr} {qh : Rat} {kh1 kh2 kh3 kh4 : Tok} (hh : (h, instObj 155 dh) ∈ news) (hdh : (dh, decObj w qh kh1 kh2 kh3 kh4) ∈ news) (hqh : DecQ qh n) (hl : (l, listOf #[.ref p1, .ref p2, .ref p3, .ref p4] n9) ∈ news) (hp1 : (p1, ({ cls := .type "tuple", data := .seq #[.ref a, .ref b] } : Obj)) ∈ news) (hp2 : (p2, ({ cls := .type "tuple", data := .seq #[.ref c, .ref d] } : Obj)) ∈ news) (hp3 : (p3, ({ cls := .type "tuple", data := .seq #[.ref e, .ref f] } : Obj)) ∈ news) (hp4 : (p4, ({ cls := .type "tuple", data := .seq #[.ref g, .ref h] } : Obj)) ∈ news)
   (hn : n ≤ 1000) (ret : ∀ t r1 e1 i1 j1 k1 l1 r2 e2 i2 j2 k2 l2 r3 e3 i3 j3 k3 l3 r4 e4 i4 j4 k4 l4 h' tk', Fr h₀ L h' m → News h₀ L h' ((t, ({ cls := .type "tuple", data := .seq #[.ref r1, .ref r2, .ref r3, .ref r4] } : Obj)) :: (r1, instObj 155 e1) :: (e1, decObj w (min (min (min (qa) qc) qe) qg) i1 j1 k1 l1) :: (r2, instObj 155 e2) :: (e2, decObj w (min (min (min (qb) qd) qf) qh) i2 j2 k2 l2) :: (r3, instObj 155 e3) :: (e3, decObj w (max (max (max (qa) qc) qe) qg) i3 j3 k3 l3) :: (r4, instObj 155 e4) :: (e4, decObj w (max (max (max (qb) qd) qf) qh) i4 j4 k4 l4) :: news) → DecQ (min (min (min (qa) qc) qe) qg) n → DecQ (min (min (min (qb) qd) qf) qh) n → DecQ (max (max (max (qa) qc) qe) qg) n → DecQ (max (max (max (qb) qd) qf) qh) n → Q (.ref t) { s with heap := h', toks := tk' }) : wpAny (model PySem.Challenge.rw_qz0079_01.row.prog w) (ktrTop dp un gd cn cs L a₀ ccd cl outer) (call (.ref 302) [.ref l]) Q E s := by
  revert X; k_fill; intro X
  w_on
  refine wpAny_call ?_
  k_dflt ktr_enter
  k_steps
  rename Fr h₀ L _ m => kF
  rename News h₀ L _ _ => kN
  exact ret _ _ _ _ _ _ _ _ _ _ _ _ _ _ _ _ _ _ _ _ _ _ _ _ _ _ _ kF (cb_drop kN (by walk_at "c sub")) (by with_reducible assumption) (by with_reducible assumption) (by with_reducible assumption) (by with_reducible assumption)

end
end PartC11
section PartC12
theorem lines_C12_1 : True := by
  k_with_none
  k_with "c mem" =>
    first | ((with_reducible refine' mem_here ?z307zh9); (case z307zh9 => exact rfl)) | ((with_reducible refine' mem_nth 1 ?z307zh9); (case z307zh9 => exact rfl)) | ((with_reducible refine' mem_nth 2 ?z307zh9); (case z307zh9 => exact rfl)) | ((with_reducible refine' mem_nth 3 ?z307zh9); (case z307zh9 => exact rfl)) | ((with_reducible refine' mem_nth 4 ?z307zh9); (case z307zh9 => exact rfl)) | ((with_reducible refine' mem_nth 5 ?z307zh9); (case z307zh9 => exact rfl)) | ((with_reducible refine' mem_nth 6 ?z307zh9); (case z307zh9 => exact rfl)) | ((with_reducible refine' mem_nth 7 ?z307zh9); (case z307zh9 => exact rfl)) | ((with_reducible refine' mem_nth 8 ?z307zh9); (case z307zh9 => exact rfl)) | ((with_reducible refine' mem_nth 9 ?z307zh9); (case z307zh9 => exact rfl)) | ((with_reducible refine' mem_skip ?_); walk_at "c mem") | (with_reducible exact List.mem_append_left _ (by with_reducible assumption)) | ktr_member | ((with_reducible refine' List.mem_cons_of_mem _ ?_); walk_at "c mem") | ((with_reducible refine' List.mem_append_right _ ?_); walk_at "c mem")
  k_with "c room" =>
    with_reducible first | assumption | exact room1 (by assumption) rfl | exact room2 (by assumption) rfl | exact room3 (by assumption) rfl | exact room4 (by assumption) rfl
  k_with "c le" =>
    with_reducible first | assumption | exact Nat.le_trans (by assumption) (by decide)
  k_with "c lt1" =>
    with_reducible first | assumption | exact cj0 | exact cj1 | exact cj2 | exact cj3 | exact cj4 | exact cj5 | exact cj6 | exact cj7 | exact cj8 | exact cj9 | exact cj10 | exact cj11 | exact cj12 | exact cj13 | exact cj14 | exact cj15 | exact cj16 | exact cj17 | exact cj18 | exact cj19 | exact cj20 | exact cj21 | exact cj22 | exact cj23 | exact And.right (by with_reducible assumption) | exact And.right (And.right (by with_reducible assumption)) | exact And.right (And.right (And.right (by with_reducible assumption))) | exact And.right (And.right (And.right (And.right (by with_reducible assumption))))
  k_with "c lt2" =>
    ((with_reducible refine' Nat.lt_trans ?z311za9 ?z311zb9); (case z311zb9 => with_reducible assumption); (case z311za9 => walk_at "c lt1"))
  k_with "c lt" =>
    first | walk_at "c lt1" | walk_at "c lt2"
  k_with "c up3" =>
    with_reducible first | exact abv3 (by assumption) | exact abv3_1 (by assumption) | exact abv3_2 (by assumption) | exact abv3_3 (by assumption) | exact abv3_4 (by assumption) | (refine' Abv3.tr ?z313za9 ?z313zb9; (case z313za9 => assumption); (case z313zb9 => walk_at "c up3"))
  k_with "c ne" =>
    first | with_reducible (first | assumption | exact And.left (by assumption) | exact Ne.symm (And.left (by assumption)) | exact And.left (And.right (by assumption)) | exact Ne.symm (And.left (And.right (by assumption))) | exact And.right (And.right (by assumption)) | exact Ne.symm (And.right (And.right (by assumption))) | exact neq_lt (by assumption) | exact neq_gt (by assumption) | exact nl0 | exact nr0 | exact nl1 | exact nr1 | exact nl2 | exact nr2 | exact nl3 | exact nr3 | exact nl4 | exact nr4 | exact nl5 | exact nr5 | exact nl6 | exact nr6 | exact nl7 | exact nr7 | exact nl8 | exact nr8 | exact nl9 | exact nr9 | exact nl10 | exact nr10 | exact nl11 | exact nr11 | exact nl12 | exact nr12 | exact nl13 | exact nr13 | exact nl14 | exact nr14 | exact nl15 | exact nr15 | exact nl16 | exact nr16 | exact nl17 | exact nr17 | exact nl18 | exact nr18 | exact nl19 | exact nr19 | exact nl20 | exact nr20 | exact nl21 | exact nr21 | exact nl22 | exact nr22 | exact nl23 | exact nr23) | ((with_reducible refine' neq_lt ?z314zz9); (case z314zz9 => walk_at "c lt2")) | ((with_reducible refine' neq_gt ?z314zz9); (case z314zz9 => walk_at "c lt2")) | ((try dsimp only); omega)
  k_with "c dp" =>
    ((try simp only [depth_under_make, depth_under_kw, depth_in1, depth_deeper, depth_caller]); (try dsimp only [ktrTop]); first | walk_at "c room" | omega | decide)
  k_with "c un" =>
    ((try simp only [units_make, units_in1, units_deeper, Around.mark_units, units_caller]); (try dsimp only [ktrTop]); first | walk_at "c room" | omega | decide)
  k_with "c sub" =>
    first | (refine List.forall_mem_cons.mpr ⟨?z317za, ?z317zb⟩; (case z317za => walk_at "c mem"); (case z317zb => walk_at "c sub")) | exact List.forall_mem_nil _ | (intro p9 h9; (repeat (first | exact h9 | refine List.mem_cons_of_mem _ ?_ | refine List.mem_append_left _ ?_)))
  k_with "c bnd" =>
    with_reducible (first | assumption | exact Bnd.pow _ | (refine' Bnd.fdiv ?z318za; (case z318za => walk_at "c bnd")) | (exact Bnd.mul (by walk_at "c bnd") (by walk_at "c bnd")) | (exact Bnd.add1 (by walk_at "c bnd") (by walk_at "c bnd")) | (exact Bnd.sub1 (by walk_at "c bnd") (by walk_at "c bnd")) | (exact Bnd.add (by walk_at "c bnd") (by walk_at "c bnd")) | (exact Bnd.sub (by walk_at "c bnd") (by walk_at "c bnd")))
  k_with "c ar" =>
    first | assumption | decide | omega | (split <;> omega)
  k_with "c mul" =>
    exact mulOk_bnd (by walk_at "c bnd") (by walk_at "c bnd") (by walk_at "c ar") (by walk_at "c ar")
  k_with "binaryOp Pow int int" =>
    ((with_reducible refine pow_int_small ?z321zkb1 ?z321zkb2 ?z321zkb3 ?_); (case z321zkb1 => walk_at "c ar"); (case z321zkb2 => walk_at "c ar"); (case z321zkb3 => decide))
  k_with "call ref" =>
    (k_here; (with_reducible show wpAny _ _ (call (Prod.fst _) (_ ++ _)) _ _ _); dsimp only [List.nil_append, List.cons_append])
  k_with "subscriptTail" =>
    (k_here; (with_reducible show wpAny _ _ (subscriptTail _ _ (Value.ref _) (Value.int _ _)) _ _ _); k_dflt (first
    | (refine' item_tupleT ?z323zt ?z323za ?z323zb ?z323zc ?z323zd ?_; (case z323zt => exact News.isTup (by k_asm) (by k_mem)); (case z323za => decide); (case z323zb => decide); (case z323zc => exact rfl); (case z323zd => exact rfl); k_whole)
    | (refine' c_item ?z323zN ?z323zm ?z323za ?z323zb ?z323zc ?_ ?z323zz; (case z323zN => k_asm); (case z323zm => k_mem); (case z323za => decide); (case z323zb => decide); (case z323zc => exact rfl); (case z323zz => with_unfolding_all rfl); k_whole)))
  k_with "subscriptTail Name Constant ref int" =>
    (k_here; (with_reducible show wpAny _ _ (subscriptTail _ _ (Value.ref _) (Value.int _ _)) _ _ _); k_dflt (first
    | (refine' item_tupleT ?z324zt ?z324za ?z324zb ?z324zc ?z324zd ?_; (case z324zt => exact News.isTup (by k_asm) (by k_mem)); (case z324za => decide); (case z324zb => decide); (case z324zc => exact rfl); (case z324zd => exact rfl); k_whole)
    | (refine' c_item ?z324zN ?z324zm ?z324za ?z324zb ?z324zc ?_ ?z324zz; (case z324zN => k_asm); (case z324zm => k_mem); (case z324za => decide); (case z324zb => decide); (case z324zc => exact rfl); (case z324zz => with_unfolding_all rfl); k_whole)))
  trivial
section
variable {w : World} {mean : ExcName → Option Value} {mg mb : PySem.Str → Option Value} {dp un : Nat} {gd : Option (List Code)} {cn : PySem.Str} {cs : Scope} {a₀ : Addr} {ccd : Value} {cl : List (PySem.Str × Addr)} {outer : List Env}
  {A₀ : Around} {base h₀ : Heap} {L : Addr} {m : PySem.Str → Option Value} {s : Shared} {news : List (Addr × Obj)} {Q E : Value → Shared → Prop}
theorem lines_C12_2 : True := by
  k_with "call ref" =>
    (k_here; (with_reducible show wpAny _ _ (call (Value.ref 187) [Value.int _ _]) _ _ _); k_dflt (refine' c_of_int ?z325zcB ?z325zcF ?z325zcX ?z325zcN ?z325zcT ?z325zcK ?z325zcD ?z325zcU ?z325zp0 ?_; (case z325zcB => k_asm); (case z325zcF => k_asm); (case z325zcX => k_asm); (case z325zcN => k_asm); (case z325zcT => k_asm); (case z325zcK => first | exact rfl | assumption); (case z325zcD => walk_at "c dp"); (case z325zcU => walk_at "c un"); (case z325zp0 => walk_at "c bnd"); intro x' d' q1' q2' q3' q4' h' tk' F' N' l1 l2 hq'; (try simp only [AllLt, and_true] at l1); (try k_lt2 l2); (try k_sweep); (try dsimp only); (try k_fold)))
  k_with "call ref" =>
    (k_here; (with_reducible show wpAny _ _ (call (Value.ref 187) [Value.ref _]) _ _ _); k_dflt (refine' c_of_dec ?z326zcB ?z326zcF ?z326zcX ?z326zcN ?z326zcT ?z326zcK ?z326zcD ?z326zcU ?z326zp0 ?z326zp1 ?_; (case z326zcB => k_asm); (case z326zcF => k_asm); (case z326zcX => k_asm); (case z326zcN => k_asm); (case z326zcT => k_asm); (case z326zcK => first | exact rfl | assumption); (case z326zcD => walk_at "c dp"); (case z326zcU => walk_at "c un"); (case z326zp0 => k_mem); (case z326zp1 => k_mem); intro h' tk' F' N'; (try k_sweep); (try dsimp only); (try k_fold)))
  k_with "call ref" =>
    (k_here; (with_reducible show wpAny _ _ (call (Value.ref 82) [Value.ref _, Value.ref _]) _ _ _); k_dflt (refine' c_plus ?z327zcB ?z327zcF ?z327zcX ?z327zcN ?z327zcT ?z327zcK ?z327zcD ?z327zcU ?z327zp0 ?z327zp1 ?z327zp2 ?z327zp3 ?z327zp4 ?z327zp5 ?z327zp6 ?z327zp7 ?_; (case z327zcB => k_asm); (case z327zcF => k_asm); (case z327zcX => k_asm); (case z327zcN => k_asm); (case z327zcT => k_asm); (case z327zcK => first | exact rfl | assumption); (case z327zcD => walk_at "c dp"); (case z327zcU => walk_at "c un"); (case z327zp0 => k_mem); (case z327zp1 => k_mem); (case z327zp2 => with_reducible assumption); (case z327zp3 => k_mem); (case z327zp4 => k_mem); (case z327zp5 => with_reducible assumption); (case z327zp6 => first | walk_at "c le" | decide | omega); (case z327zp7 => first | walk_at "c le" | decide | omega); intro x' d' q1' q2' q3' q4' h' tk' F' N' l1 l2 hq'; (try simp only [AllLt, and_true] at l1); (try k_lt2 l2); (try k_sweep); (try dsimp only); (try k_fold)))
  k_with "call ref" =>
    (k_here; (with_reducible show wpAny _ _ (call (Value.ref 89) [Value.ref _, Value.ref _]) _ _ _); k_dflt (refine' c_minus ?z328zcB ?z328zcF ?z328zcX ?z328zcN ?z328zcT ?z328zcK ?z328zcD ?z328zcU ?z328zp0 ?z328zp1 ?z328zp2 ?z328zp3 ?z328zp4 ?z328zp5 ?z328zp6 ?z328zp7 ?_; (case z328zcB => k_asm); (case z328zcF => k_asm); (case z328zcX => k_asm); (case z328zcN => k_asm); (case z328zcT => k_asm); (case z328zcK => first | exact rfl | assumption); (case z328zcD => walk_at "c dp"); (case z328zcU => walk_at "c un"); (case z328zp0 => k_mem); (case z328zp1 => k_mem); (case z328zp2 => with_reducible assumption); (case z328zp3 => k_mem); (case z328zp4 => k_mem); (case z328zp5 => with_reducible assumption); (case z328zp6 => first | walk_at "c le" | decide | omega); (case z328zp7 => first | walk_at "c le" | decide | omega); intro x' d' q1' q2' q3' q4' h' tk' F' N' l1 l2 hq'; (try simp only [AllLt, and_true] at l1); (try k_lt2 l2); (try k_sweep); (try dsimp only); (try k_fold)))
  k_with "call ref" =>
    (k_here; (with_reducible show wpAny _ _ (call (Value.ref 96) [Value.ref _, Value.ref _]) _ _ _); k_dflt (refine' c_times ?z329zcB ?z329zcF ?z329zcX ?z329zcN ?z329zcT ?z329zcK ?z329zcD ?z329zcU ?z329zp0 ?z329zp1 ?z329zp2 ?z329zp3 ?z329zp4 ?z329zp5 ?z329zp6 ?z329zp7 ?_; (case z329zcB => k_asm); (case z329zcF => k_asm); (case z329zcX => k_asm); (case z329zcN => k_asm); (case z329zcT => k_asm); (case z329zcK => first | exact rfl | assumption); (case z329zcD => walk_at "c dp"); (case z329zcU => walk_at "c un"); (case z329zp0 => k_mem); (case z329zp1 => k_mem); (case z329zp2 => with_reducible assumption); (case z329zp3 => k_mem); (case z329zp4 => k_mem); (case z329zp5 => with_reducible assumption); (case z329zp6 => first | walk_at "c le" | decide | omega); (case z329zp7 => first | walk_at "c le" | decide | omega); intro x' d' q1' q2' q3' q4' h' tk' F' N' l1 l2 hq'; (try simp only [AllLt, and_true] at l1); (try k_lt2 l2); (try k_sweep); (try dsimp only); (try k_fold)))
  k_with "call ref" =>
    (k_here; (with_reducible show wpAny _ _ (call (Value.ref 110) [Value.ref _, Value.ref _]) _ _ _); k_dflt (refine' c_compared ?z330zcB ?z330zcF ?z330zcX ?z330zcN ?z330zcT ?z330zcK ?z330zcD ?z330zcU ?z330zp0 ?z330zp1 ?z330zp2 ?z330zp3 ?z330zp4 ?z330zp5 ?z330zp6 ?z330zp7 ?_; (case z330zcB => k_asm); (case z330zcF => k_asm); (case z330zcX => k_asm); (case z330zcN => k_asm); (case z330zcT => k_asm); (case z330zcK => first | exact rfl | assumption); (case z330zcD => walk_at "c dp"); (case z330zcU => walk_at "c un"); (case z330zp0 => k_mem); (case z330zp1 => k_mem); (case z330zp2 => with_reducible assumption); (case z330zp3 => k_mem); (case z330zp4 => k_mem); (case z330zp5 => with_reducible assumption); (case z330zp6 => first | walk_at "c le" | decide | omega); (case z330zp7 => first | walk_at "c le" | decide | omega); intro c' i1' h' tk' F' N' cC; (try k_sweep); (try dsimp only); (try k_fold)))
  k_with "call ref" =>
    (k_here; (with_reducible show wpAny _ _ (call (Value.ref 155) [Value.int _ _, Value.int 0 _]) _ _ _); k_dflt (refine' c_new0 ?z331zcB ?z331zcF ?z331zcX ?z331zcN ?z331zcT ?z331zcK ?z331zcD ?z331zcU ?z331zp0 ?_; (case z331zcB => k_asm); (case z331zcF => k_asm); (case z331zcX => k_asm); (case z331zcN => k_asm); (case z331zcT => k_asm); (case z331zcK => first | exact rfl | assumption); (case z331zcD => walk_at "c dp"); (case z331zcU => walk_at "c un"); (case z331zp0 => walk_at "c bnd"); intro x' d' q1' q2' q3' q4' h' tk' F' N' l1 l2 hq'; (try simp only [AllLt, and_true] at l1); (try k_lt2 l2); (try k_sweep); (try dsimp only); (try k_fold)))
  k_with "call ref" =>
    (k_here; (with_reducible show wpAny _ _ (call (Value.ref 279) [Value.ref _, Value.int 0 _, Value.int 0 _, Value.ref _, Value.ref _, Value.ref _]) _ _ _); k_dflt (refine' c_mat4 ?z332zcB ?z332zcF ?z332zcX ?z332zcN ?z332zcT ?z332zcK ?z332zcD ?z332zcU ?z332zp0 ?z332zp1 ?z332zp2 ?z332zp3 ?z332zp4 ?z332zp5 ?z332zp6 ?z332zp7 ?_; (case z332zcB => k_asm); (case z332zcF => k_asm); (case z332zcX => k_asm); (case z332zcN => k_asm); (case z332zcT => k_asm); (case z332zcK => first | exact rfl | assumption); (case z332zcD => walk_at "c dp"); (case z332zcU => walk_at "c un"); (case z332zp0 => k_mem); (case z332zp1 => k_mem); (case z332zp2 => k_mem); (case z332zp3 => k_mem); (case z332zp4 => k_mem); (case z332zp5 => k_mem); (case z332zp6 => k_mem); (case z332zp7 => k_mem); intro x' d' xb' db' xc' dc' k1' k2' k3' k4' k5' k6' kb1' kb2' kb3' kb4' kc1' kc2' kc3' kc4' h' tk' F' N' hq'; (try k_sweep); (try dsimp only); (try k_fold)))
  k_with "call ref" =>
    (k_here; (with_reducible show wpAny _ _ (call (Value.ref 257) [Value.ref _, Value.ref _, Value.ref _]) _ _ _); k_dflt (refine' c_applied ?z333zcB ?z333zcF ?z333zcX ?z333zcN ?z333zcT ?z333zcK ?z333zcD ?z333zcU ?z333zp0 ?z333zp1 ?z333zp2 ?z333zp3 ?z333zp4 ?z333zp5 ?z333zp6 ?z333zp7 ?z333zp8 ?z333zp9 ?z333zp10 ?z333zp11 ?z333zp12 ?z333zp13 ?z333zp14 ?z333zp15 ?z333zp16 ?z333zp17 ?z333zp18 ?z333zp19 ?z333zp20 ?z333zp21 ?z333zp22 ?z333zp23 ?z333zp24 ?z333zp25 ?z333zp26 ?z333zp27 ?z333zp28 ?_; (case z333zcB => k_asm); (case z333zcF => k_asm); (case z333zcX => k_asm); (case z333zcN => k_asm); (case z333zcT => k_asm); (case z333zcK => first | exact rfl | assumption); (case z333zcD => walk_at "c dp"); (case z333zcU => walk_at "c un"); (case z333zp0 => k_mem); (case z333zp1 => k_mem); (case z333zp2 => k_mem); (case z333zp3 => k_mem); (case z333zp4 => with_reducible assumption); (case z333zp5 => k_mem); (case z333zp6 => k_mem); (case z333zp7 => with_reducible assumption); (case z333zp8 => k_mem); (case z333zp9 => k_mem); (case z333zp10 => with_reducible assumption); (case z333zp11 => k_mem); (case z333zp12 => k_mem); (case z333zp13 => with_reducible assumption); (case z333zp14 => k_mem); (case z333zp15 => k_mem); (case z333zp16 => with_reducible assumption); (case z333zp17 => k_mem); (case z333zp18 => k_mem); (case z333zp19 => with_reducible assumption); (case z333zp20 => k_mem); (case z333zp21 => k_mem); (case z333zp22 => with_reducible assumption); (case z333zp23 => k_mem); (case z333zp24 => k_mem); (case z333zp25 => with_reducible assumption); (case z333zp26 => first | walk_at "c le" | decide | omega); (case z333zp27 => first | walk_at "c le" | decide | omega); (case z333zp28 => first | walk_at "c le" | decide | omega); intro t' u' du' v' dv' ku1' ku2' ku3' ku4' kv1' kv2' kv3' kv4' h' tk' F' N' l1 l2 l3 l4 l5 hq1' hq2'; (try simp only [AllLt, and_true] at l1); (try k_sweep); (try dsimp only); (try k_fold)))
  k_with "call ref" =>
    (k_here; (with_reducible show wpAny _ _ (call (Value.ref 222) [Value.ref _]) _ _ _); k_dflt (refine' c_least4 ?z334zcB ?z334zcF ?z334zcX ?z334zcN ?z334zcT ?z334zcK ?z334zcD ?z334zcU ?z334zp0 ?z334zp1 ?z334zp2 ?z334zp3 ?z334zp4 ?z334zp5 ?z334zp6 ?z334zp7 ?z334zp8 ?z334zp9 ?z334zp10 ?z334zp11 ?z334zp12 ?z334zp13 ?_; (case z334zcB => k_asm); (case z334zcF => k_asm); (case z334zcX => k_asm); (case z334zcN => k_asm); (case z334zcT => k_asm); (case z334zcK => first | exact rfl | assumption); (case z334zcD => walk_at "c dp"); (case z334zcU => walk_at "c un"); (case z334zp12 => k_mem); (case z334zp0 => k_mem); (case z334zp1 => k_mem); (case z334zp2 => with_reducible assumption); (case z334zp3 => k_mem); (case z334zp4 => k_mem); (case z334zp5 => with_reducible assumption); (case z334zp6 => k_mem); (case z334zp7 => k_mem); (case z334zp8 => with_reducible assumption); (case z334zp9 => k_mem); (case z334zp10 => k_mem); (case z334zp11 => with_reducible assumption); (case z334zp13 => first | walk_at "c le" | decide | omega); intro x' d' q1' q2' q3' q4' qq' h' tk' F' N' hq' eq'; subst eq'; (try k_sweep); (try dsimp only); (try k_fold)))
  k_with "call ref" =>
    (k_here; (with_reducible show wpAny _ _ (call (Value.ref 229) [Value.ref _]) _ _ _); k_dflt (refine' c_great4 ?z335zcB ?z335zcF ?z335zcX ?z335zcN ?z335zcT ?z335zcK ?z335zcD ?z335zcU ?z335zp0 ?z335zp1 ?z335zp2 ?z335zp3 ?z335zp4 ?z335zp5 ?z335zp6 ?z335zp7 ?z335zp8 ?z335zp9 ?z335zp10 ?z335zp11 ?z335zp12 ?z335zp13 ?_; (case z335zcB => k_asm); (case z335zcF => k_asm); (case z335zcX => k_asm); (case z335zcN => k_asm); (case z335zcT => k_asm); (case z335zcK => first | exact rfl | assumption); (case z335zcD => walk_at "c dp"); (case z335zcU => walk_at "c un"); (case z335zp12 => k_mem); (case z335zp0 => k_mem); (case z335zp1 => k_mem); (case z335zp2 => with_reducible assumption); (case z335zp3 => k_mem); (case z335zp4 => k_mem); (case z335zp5 => with_reducible assumption); (case z335zp6 => k_mem); (case z335zp7 => k_mem); (case z335zp8 => with_reducible assumption); (case z335zp9 => k_mem); (case z335zp10 => k_mem); (case z335zp11 => with_reducible assumption); (case z335zp13 => first | walk_at "c le" | decide | omega); intro x' d' q1' q2' q3' q4' qq' h' tk' F' N' hq' eq'; subst eq'; (try k_sweep); (try dsimp only); (try k_fold)))
  k_with "call ref" =>
    (k_here; (with_reducible show wpAny _ _ (call (Value.ref 302) [Value.ref _]) _ _ _); k_dflt (refine' c_boxof ?z336zcB ?z336zcF ?z336zcX ?z336zcN ?z336zcT ?z336zcK ?z336zcD ?z336zcU ?z336zp0 ?z336zp1 ?z336zp2 ?z336zp3 ?z336zp4 ?z336zp5 ?z336zp6 ?z336zp7 ?z336zp8 ?z336zp9 ?z336zp10 ?z336zp11 ?z336zp12 ?z336zp13 ?z336zp14 ?z336zp15 ?z336zp16 ?z336zp17 ?z336zp18 ?z336zp19 ?z336zp20 ?z336zp21 ?z336zp22 ?z336zp23 ?z336zp24 ?z336zp25 ?z336zp26 ?z336zp27 ?z336zp28 ?z336zp29 ?_; (case z336zcB => k_asm); (case z336zcF => k_asm); (case z336zcX => k_asm); (case z336zcN => k_asm); (case z336zcT => k_asm); (case z336zcK => first | exact rfl | assumption); (case z336zcD => walk_at "c dp"); (case z336zcU => walk_at "c un"); (case z336zp24 => k_mem); (case z336zp25 => k_mem); (case z336zp26 => k_mem); (case z336zp27 => k_mem); (case z336zp28 => k_mem); (case z336zp0 => k_mem); (case z336zp1 => k_mem); (case z336zp2 => with_reducible assumption); (case z336zp3 => k_mem); (case z336zp4 => k_mem); (case z336zp5 => with_reducible assumption); (case z336zp6 => k_mem); (case z336zp7 => k_mem); (case z336zp8 => with_reducible assumption); (case z336zp9 => k_mem); (case z336zp10 => k_mem); (case z336zp11 => with_reducible assumption); (case z336zp12 => k_mem); (case z336zp13 => k_mem); (case z336zp14 => with_reducible assumption); (case z336zp15 => k_mem); (case z336zp16 => k_mem); (case z336zp17 => with_reducible assumption); (case z336zp18 => k_mem); (case z336zp19 => k_mem); (case z336zp20 => with_reducible assumption); (case z336zp21 => k_mem); (case z336zp22 => k_mem); (case z336zp23 => with_reducible assumption); (case z336zp29 => first | walk_at "c le" | decide | omega); intro t' r1' e1' i1' j1' k1' l1' r2' e2' i2' j2' k2' l2' r3' e3' i3' j3' k3' l3' r4' e4' i4' j4' k4' l4' h' tk' F' N' hq1' hq2' hq3' hq4'; (try k_sweep); (try dsimp only); (try k_fold)))
  k_with "call ref" =>
    (k_here; (with_reducible show wpAny _ _ (call (Value.ref 309) [Value.ref _]) _ _ _); k_dflt (refine' c_corners ?z337zcB ?z337zcF ?z337zcX ?z337zcN ?z337zcT ?z337zcK ?z337zcD ?z337zcU ?z337zp0 ?_; (case z337zcB => k_asm); (case z337zcF => k_asm); (case z337zcX => k_asm); (case z337zcN => k_asm); (case z337zcT => k_asm); (case z337zcK => first | exact rfl | assumption); (case z337zcD => walk_at "c dp"); (case z337zcU => walk_at "c un"); (case z337zp0 => k_mem); intro l' n9' t1' t2' t3' t4' h' tk' F' N'; (try k_sweep); (try dsimp only); (try k_fold)))
  k_with "c kept" =>
    first | exact Kept.done (by with_reducible assumption) | (refine' Kept.skipI ?z338zk9; (case z338zk9 => walk_at "c kept")) | (refine' Kept.skipC ?z338zk9; (case z338zk9 => walk_at "c kept")) | (refine' Kept.skipD ?z338zk9; (case z338zk9 => walk_at "c kept")) | ((with_reducible refine' Kept.takeF ?z338zu9 ?z338zk9); (case z338zu9 => with_reducible assumption); (case z338zk9 => walk_at "c kept")) | ((with_reducible refine' Kept.take3 ?z338zu9 ?z338zk9); (case z338zu9 => walk_at "c up3"); (case z338zk9 => walk_at "c kept")) | (refine' Kept.take ?z338za ?z338zb ?z338zc ?z338zk9; (case z338za => first | walk_at "c ne" | omega); (case z338zb => first | walk_at "c ne" | omega); (case z338zc => first | walk_at "c ne" | omega); (case z338zk9 => walk_at "c kept"))
  k_with "CompEnd" =>
    (k_dflt (refine' kept_end ?z339zF ?z339zN ?z339zk ?z339zi ?z339zc ?z339zd ?z339zs ?_; (case z339zF => k_asm); (case z339zN => k_asm); (case z339zk => with_reducible walk_at "c kept"); (case z339zi => k_mem); (case z339zc => k_mem); (case z339zd => k_mem); (case z339zs => first | exact True.intro | (refine' src_list ?z339zm1; (case z339zm1 => k_mem)) | exact Or.inl (by assumption))))
  k_with "CompRest" =>
    (with_unfolding_all first
    | (refine LCg.CompRest.succ ?_; intro v' I' oI' C' oC' D' m' h' tk' E' hv' hC' hx' F' N' off' ne'; (first | lcg_open hv' | (obtain ⟨t9', hv9'⟩ := hv'; subst hv9')))
    | refine LCg.CompRest.zero ?_)
  k_with "FinE" =>
    ((unfold LCg.FinE); intro D' h' tk' F' N' o1'; clear o1'; (try simp only [List.nil_append, List.cons_append] at N'); (try dsimp only))
  k_with "CompRestP" =>
    (with_unfolding_all first
    | (refine LCp.CompRestP.succ ?_; intro v' hv'; lcg_open hv'; refine ⟨_, _, _, _, _, rfl, by k_mem, rfl, rfl, ?_⟩; intro I' oI' C' oC' D' m' h' tk' E' hC' hx' hy' F' N' off' ne')
    | refine LCp.CompRestP.zero ?_)
  k_with "FinA" =>
    ((unfold LCg.FinA); intro D' h' tk' F' N' o1'; clear o1'; (try simp only [List.nil_append, List.cons_append] at N'); (try dsimp only))
  trivial

theorem c_tbox (B : Below A₀ base outer h₀) (F : Fr h₀ L s.heap m) (X : (Mine.hd0.heap_1 w.params).In h₀) (N : News h₀ L s.heap news) (T : Top VW LS mean mg mb h₀) (hk : cs.kind = .function) (hd : dp + 50 < recursionLimit) (hu : un + 500 < cLine) {f : Addr} {k : Nat} {a da : Addr} {qa : Rat} {ka1 ka2 ka3 ka4 : Tok} (ha : (a, instObj 155 da) ∈ news) (hda : (da, decObj w qa ka1 ka2 ka3 ka4) ∈ news) (hqa : DecQ qa k) {b db : Addr} {qb : Rat} {kb1 kb2 kb3 kb4 : Tok} (hb : (b, instObj 155 db) ∈ news) (hdb : (db, decObj w qb kb1 kb2 kb3 kb4) ∈ news) (hqb : DecQ qb k) {c dc : Addr} {qc : Rat} {kc1 kc2 kc3 kc4 : Tok} (hc : (c, instObj 155 dc) ∈ news) (hdc : (dc, decObj w qc kc1 kc2 kc3 kc4) ∈ news) (hqc : DecQ qc k) {d dd : Addr} {qd : Rat} {kd1 kd2 kd3 kd4 : Tok} (hd : (d, instObj 155 dd) ∈ news) (hdd : (dd, decObj w qd kd1 kd2 kd3 kd4) ∈ news) (hqd : DecQ qd k) {x dx : Addr} {xa xb xc xd xe xf : Addr} {dxa dxb dxc dxd dxe dxf : Addr} {ma mb mc md me mf : Rat} {n : Nat} {kx1 kx2 kx3 kx4 kx5 kx6 : Tok} {kxa1 kxa2 kxa3 kxa4 kxb1 kxb2 kxb3 kxb4 kxc1 kxc2 kxc3 kxc4 kxd1 kxd2 kxd3 kxd4 kxe1 kxe2 kxe3 kxe4 kxf1 kxf2 kxf3 kxf4 : Tok} (hx : (x, instObj 279 dx) ∈ news) (hdx : (dx, matObj w xa xb xc xd xe xf kx1 kx2 kx3 kx4 kx5 kx6) ∈ news) (hxa : (xa, instObj 155 dxa) ∈ news) (hdxa : (dxa, decObj w ma kxa1 kxa2 kxa3 kxa4) ∈ news) (hqxa : DecQ ma n) (hxb : (xb, instObj 155 dxb) ∈ news) (hdxb : (dxb, decObj w mb kxb1 kxb2 kxb3 kxb4) ∈ news) (hqxb : DecQ mb n) (hxc : (xc, instObj 155 dxc) ∈ news) (hdxc : (dxc, decObj w mc kxc1 kxc2 kxc3 kxc4) ∈ news) (hqxc : DecQ mc n) (hxd : (xd, instObj 155 dxd) ∈ news) (hdxd : (dxd, decObj w md kxd1 kxd2 kxd3 kxd4) ∈ news) (hqxd : DecQ md n) (hxe : (xe, instObj 155 dxe) ∈ news) (hdxe : (dxe, decObj w me kxe1 kxe2 kxe3 kxe4) ∈ news) (hqxe : DecQ me n) (hxf : (xf, instObj 155 dxf) ∈ news) (hdxf : (dxf, decObj w mf kxf1 kxf2 kxf3 kxf4) ∈ news) (hqxf : DecQ mf n) (hf : (f, ({ cls := .type "tuple", data := .seq #[.ref a, .ref b, .ref c, .ref d] } : Obj)) ∈ news) (hn : n ≤ 100) (hkk : k ≤ 100)
   (ret : ∀ t r1 e1 i1 j1 k1 l1 r2 e2 i2 j2 k2 l2 r3 e3 i3 j3 k3 l3 r4 e4 i4 j4 k4 l4 h' tk', Fr h₀ L h' m → News h₀ L h' ((t, ({ cls := .type "tuple", data := .seq #[.ref r1, .ref r2, .ref r3, .ref r4] } : Obj)) :: (r1, instObj 155 e1) :: (e1, decObj w (min (min (min ((ma * qa + mc * qb + me)) ((ma * qc + mc * qb + me))) ((ma * qc + mc * qd + me))) ((ma * qa + mc * qd + me))) i1 j1 k1 l1) :: (r2, instObj 155 e2) :: (e2, decObj w (min (min (min ((mb * qa + md * qb + mf)) ((mb * qc + md * qb + mf))) ((mb * qc + md * qd + mf))) ((mb * qa + md * qd + mf))) i2 j2 k2 l2) :: (r3, instObj 155 e3) :: (e3, decObj w (max (max (max ((ma * qa + mc * qb + me)) ((ma * qc + mc * qb + me))) ((ma * qc + mc * qd + me))) ((ma * qa + mc * qd + me))) i3 j3 k3 l3) :: (r4, instObj 155 e4) :: (e4, decObj w (max (max (max ((mb * qa + md * qb + mf)) ((mb * qc + md * qb + mf))) ((mb * qc + md * qd + mf))) ((mb * qa + md * qd + mf))) i4 j4 k4 l4) :: news) → DecQ (min (min (min ((ma * qa + mc * qb + me)) ((ma * qc + mc * qb + me))) ((ma * qc + mc * qd + me))) ((ma * qa + mc * qd + me))) (3 * n + k + k + 2) → DecQ (min (min (min ((mb * qa + md * qb + mf)) ((mb * qc + md * qb + mf))) ((mb * qc + md * qd + mf))) ((mb * qa + md * qd + mf))) (3 * n + k + k + 2) → DecQ (max (max (max ((ma * qa + mc * qb + me)) ((ma * qc + mc * qb + me))) ((ma * qc + mc * qd + me))) ((ma * qa + mc * qd + me))) (3 * n + k + k + 2) → DecQ (max (max (max ((mb * qa + md * qb + mf)) ((mb * qc + md * qb + mf))) ((mb * qc + md * qd + mf))) ((mb * qa + md * qd + mf))) (3 * n + k + k + 2) → Q (.ref t) { s with heap := h', toks := tk' }) : wpAny (model PySem.Challenge.rw_qz0079_01.row.prog w) (ktrTop dp un gd cn cs L a₀ ccd cl outer) (call (.ref 314) [.ref f, .ref x]) Q E s := by
  revert X; k_fill; intro X
  w_on
  refine wpAny_call ?_
  k_dflt (refine' code_defC ?k1 ?k2 ?k3 ?k4 ?k5 ?kA ?kF ?kK ?k6 ?k7 ?k8 ?k9 ?kB ?kD ?_ ?c2 ?c3 ?c4; (case kA => exact rfl); (case kF => exact rfl); (case kK => assumption); (case k1 => k_asm); (case k2 => k_asm); (case k3 => k_asm); (case k4 => k_asm); (case k5 => k_asm); (case k6 => k_is); (case k7 => k_is); (case k8 => ktr_room); (case k9 => exact BindsTo.of_eq rfl); (case kB => exact rfl); (case kD => decide +kernel); (case c2 => exact rfl); (case c3 => exact rfl); (case c4 => exact rfl); k_whole; intro g' L' h' tk' cells' FG' F' N' Y' B' X' T' l1; (try k_lt l1); k_cells Y'; (try simp only [List.cons_append, List.nil_append] at N'); (try dsimp only); (try k_fold))
  k_steps
  rename Fr h₀ L _ m => kF
  rename News h₀ L _ _ => kN
  exact ret _ _ _ _ _ _ _ _ _ _ _ _ _ _ _ _ _ _ _ _ _ _ _ _ _ _ _ kF (cb_drop kN (by walk_at "c sub")) (by with_reducible assumption) (by with_reducible assumption) (by with_reducible assumption) (by with_reducible assumption)

theorem c_boxsizeI (B : Below A₀ base outer h₀) (F : Fr h₀ L s.heap m) (X : (Mine.hd0.heap_1 w.params).In h₀) (N : News h₀ L s.heap news) (T : Top VW LS mean mg mb h₀) (hk : cs.kind = .function) (hd : dp + 30 < recursionLimit) (hu : un + 300 < cLine) {f : Addr} {n : Nat} {a da : Addr} {qa : Rat} {ka1 ka2 ka3 ka4 : Tok} (ha : (a, instObj 155 da) ∈ news) (hda : (da, decObj w qa ka1 ka2 ka3 ka4) ∈ news) (hqa : DecQ qa n) {b db : Addr} {qb : Rat} {kb1 kb2 kb3 kb4 : Tok} (hb : (b, instObj 155 db) ∈ news) (hdb : (db, decObj w qb kb1 kb2 kb3 kb4) ∈ news) (hqb : DecQ qb n) {c dc : Addr} {qc : Rat} {kc1 kc2 kc3 kc4 : Tok} (hc : (c, instObj 155 dc) ∈ news) (hdc : (dc, decObj w qc kc1 kc2 kc3 kc4) ∈ news) (hqc : DecQ qc n) {d dd : Addr} {qd : Rat} {kd1 kd2 kd3 kd4 : Tok} (hd_ : (d, instObj 155 dd) ∈ news) (hdd : (dd, decObj w qd kd1 kd2 kd3 kd4) ∈ news) (hqd : DecQ qd n) (hf : (f, ({ cls := .type "tuple", data := .seq #[.ref a, .ref b, .ref c, .ref d] } : Obj)) ∈ news) {x y : Int} (eW : qc - qa = (x : Rat)) (eH : qd - qb = (y : Rat)) (hn : n ≤ 1000) (ret : ∀ t u du v dv ku1 ku2 ku3 ku4 kv1 kv2 kv3 kv4 h' tk', Fr h₀ L h' m → News h₀ L h' ((t, ({ cls := .type "tuple", data := .seq #[.ref u, .ref v] } : Obj)) :: (u, instObj 155 du) :: (du, decObj w (x : Rat) ku1 ku2 ku3 ku4) :: (v, instObj 155 dv) :: (dv, decObj w (y : Rat) kv1 kv2 kv3 kv4) :: news) → DecQ (x : Rat) (n + n + 1) → DecQ (y : Rat) (n + n + 1) → Q (.ref t) { s with heap := h', toks := tk' }) : wpAny (model PySem.Challenge.rw_qz0079_01.row.prog w) (ktrTop dp un gd cn cs L a₀ ccd cl outer) (call (.ref 321) [.ref f]) Q E s := by
  rw [← eW, ← eH] at ret
  exact c_boxsize B F X N T hk hd hu ha hda hqa hb hdb hqb hc hdc hqc hd_ hdd hqd hf hn ret
theorem c_stretch {x y : Int} (B : Below A₀ base outer h₀) (F : Fr h₀ L s.heap m) (X : (Mine.hd0.heap_1 w.params).In h₀) (N : News h₀ L s.heap news) (T : Top VW LS mean mg mb h₀) (hk : cs.kind = .function) (hd : dp + 30 < recursionLimit) (hu : un + 300 < cLine) {a da b db : Addr} {ka1 ka2 ka3 ka4 kb1 kb2 kb3 kb4 : Tok} {n k : Nat}
    (ha : (a, instObj 155 da) ∈ news) (hda : (da, decObj w (x : Rat) ka1 ka2 ka3 ka4) ∈ news) (hq : DecQ (x : Rat) n)
    (hb : (b, instObj 155 db) ∈ news) (hdb : (db, decObj w (y : Rat) kb1 kb2 kb3 kb4) ∈ news) (hr : DecQ (y : Rat) k) {pl : Int} {tp : Tok} (hn : n ≤ 1000) (hkk : k ≤ 1000) (hy : y = 0 ∨ Nice y)
    (ret : RetDec w h₀ L m news s Q (strq y x) (n + k + 4)) : wpAny (model PySem.Challenge.rw_qz0079_01.row.prog w) (ktrTop dp un gd cn cs L a₀ ccd cl outer) (call (.ref 328) [.ref b, .ref a, .int pl tp]) Q E s := by
  by_cases h0 : y = 0
  · refine c_stretch0 B F X N T hk hd hu hb hdb hr h0 (by omega) (fun x dx k1 k2 k3 k4 h' tk' F' N' l1 l2 hq' => ?_)
    rw [strq, if_pos h0] at ret
    exact ret x dx k1 k2 k3 k4 h' tk' F' N' l1 l2 (DecQ.mono hq' (by omega))
  · rw [strq, if_neg h0] at ret
    exact c_stretch1 B F X N T hk hd hu ha hda hq hb hdb hr hn hkk (hy.resolve_left h0) ret

end
end PartC12
section PartC13
theorem lines_C13_1 : True := by
  k_with_none
  k_with "c mem" =>
    first | ((with_reducible refine' mem_here ?z344zh9); (case z344zh9 => exact rfl)) | ((with_reducible refine' mem_nth 1 ?z344zh9); (case z344zh9 => exact rfl)) | ((with_reducible refine' mem_nth 2 ?z344zh9); (case z344zh9 => exact rfl)) | ((with_reducible refine' mem_nth 3 ?z344zh9); (case z344zh9 => exact rfl)) | ((with_reducible refine' mem_nth 4 ?z344zh9); (case z344zh9 => exact rfl)) | ((with_reducible refine' mem_nth 5 ?z344zh9); (case z344zh9 => exact rfl)) | ((with_reducible refine' mem_nth 6 ?z344zh9); (case z344zh9 => exact rfl)) | ((with_reducible refine' mem_nth 7 ?z344zh9); (case z344zh9 => exact rfl)) | ((with_reducible refine' mem_nth 8 ?z344zh9); (case z344zh9 => exact rfl)) | ((with_reducible refine' mem_nth 9 ?z344zh9); (case z344zh9 => exact rfl)) | ((with_reducible refine' mem_skip ?_); walk_at "c mem") | (with_reducible exact List.mem_append_left _ (by with_reducible assumption)) | ktr_member | ((with_reducible refine' List.mem_cons_of_mem _ ?_); walk_at "c mem") | ((with_reducible refine' List.mem_append_right _ ?_); walk_at "c mem")
  k_with "c room" =>
    with_reducible first | assumption | exact room1 (by assumption) rfl | exact room2 (by assumption) rfl | exact room3 (by assumption) rfl | exact room4 (by assumption) rfl
  k_with "c le" =>
    with_reducible first | assumption | exact Nat.le_trans (by assumption) (by decide)
  k_with "c lt1" =>
    with_reducible first | assumption | exact cj0 | exact cj1 | exact cj2 | exact cj3 | exact cj4 | exact cj5 | exact cj6 | exact cj7 | exact cj8 | exact cj9 | exact cj10 | exact cj11 | exact cj12 | exact cj13 | exact cj14 | exact cj15 | exact cj16 | exact cj17 | exact cj18 | exact cj19 | exact cj20 | exact cj21 | exact cj22 | exact cj23 | exact And.right (by with_reducible assumption) | exact And.right (And.right (by with_reducible assumption)) | exact And.right (And.right (And.right (by with_reducible assumption))) | exact And.right (And.right (And.right (And.right (by with_reducible assumption))))
  k_with "c lt2" =>
    ((with_reducible refine' Nat.lt_trans ?z348za9 ?z348zb9); (case z348zb9 => with_reducible assumption); (case z348za9 => walk_at "c lt1"))
  k_with "c lt" =>
    first | walk_at "c lt1" | walk_at "c lt2"
  k_with "c up3" =>
    with_reducible first | exact abv3 (by assumption) | exact abv3_1 (by assumption) | exact abv3_2 (by assumption) | exact abv3_3 (by assumption) | exact abv3_4 (by assumption) | (refine' Abv3.tr ?z350za9 ?z350zb9; (case z350za9 => assumption); (case z350zb9 => walk_at "c up3"))
  k_with "c ne" =>
    first | with_reducible (first | assumption | exact And.left (by assumption) | exact Ne.symm (And.left (by assumption)) | exact And.left (And.right (by assumption)) | exact Ne.symm (And.left (And.right (by assumption))) | exact And.right (And.right (by assumption)) | exact Ne.symm (And.right (And.right (by assumption))) | exact neq_lt (by assumption) | exact neq_gt (by assumption) | exact nl0 | exact nr0 | exact nl1 | exact nr1 | exact nl2 | exact nr2 | exact nl3 | exact nr3 | exact nl4 | exact nr4 | exact nl5 | exact nr5 | exact nl6 | exact nr6 | exact nl7 | exact nr7 | exact nl8 | exact nr8 | exact nl9 | exact nr9 | exact nl10 | exact nr10 | exact nl11 | exact nr11 | exact nl12 | exact nr12 | exact nl13 | exact nr13 | exact nl14 | exact nr14 | exact nl15 | exact nr15 | exact nl16 | exact nr16 | exact nl17 | exact nr17 | exact nl18 | exact nr18 | exact nl19 | exact nr19 | exact nl20 | exact nr20 | exact nl21 | exact nr21 | exact nl22 | exact nr22 | exact nl23 | exact nr23) | ((with_reducible refine' neq_lt ?z351zz9); (case z351zz9 => walk_at "c lt2")) | ((with_reducible refine' neq_gt ?z351zz9); (case z351zz9 => walk_at "c lt2")) | ((try dsimp only); omega)
  k_with "c dp" =>
    ((try simp only [depth_under_make, depth_under_kw, depth_in1, depth_deeper, depth_caller]); (try dsimp only [ktrTop]); first | walk_at "c room" | omega | decide)
  k_with "c un" =>
    ((try simp only [units_make, units_in1, units_deeper, Around.mark_units, units_caller]); (try dsimp only [ktrTop]); first | walk_at "c room" | omega | decide)
  k_with "c sub" =>
    first | (refine List.forall_mem_cons.mpr ⟨?z354za, ?z354zb⟩; (case z354za => walk_at "c mem"); (case z354zb => walk_at "c sub")) | exact List.forall_mem_nil _ | (intro p9 h9; (repeat (first | exact h9 | refine List.mem_cons_of_mem _ ?_ | refine List.mem_append_left _ ?_)))
  k_with "c bnd" =>
    with_reducible (first | assumption | exact Bnd.pow _ | (refine' Bnd.fdiv ?z355za; (case z355za => walk_at "c bnd")) | (exact Bnd.mul (by walk_at "c bnd") (by walk_at "c bnd")) | (exact Bnd.add1 (by walk_at "c bnd") (by walk_at "c bnd")) | (exact Bnd.sub1 (by walk_at "c bnd") (by walk_at "c bnd")) | (exact Bnd.add (by walk_at "c bnd") (by walk_at "c bnd")) | (exact Bnd.sub (by walk_at "c bnd") (by walk_at "c bnd")))
  k_with "c ar" =>
    first | assumption | decide | omega | (split <;> omega)
  k_with "c mul" =>
    exact mulOk_bnd (by walk_at "c bnd") (by walk_at "c bnd") (by walk_at "c ar") (by walk_at "c ar")
  k_with "binaryOp Pow int int" =>
    ((with_reducible refine pow_int_small ?z358zkb1 ?z358zkb2 ?z358zkb3 ?_); (case z358zkb1 => walk_at "c ar"); (case z358zkb2 => walk_at "c ar"); (case z358zkb3 => decide))
  k_with "call ref" =>
    (k_here; (with_reducible show wpAny _ _ (call (Prod.fst _) (_ ++ _)) _ _ _); dsimp only [List.nil_append, List.cons_append])
  k_with "subscriptTail" =>
    (k_here; (with_reducible show wpAny _ _ (subscriptTail _ _ (Value.ref _) (Value.int _ _)) _ _ _); k_dflt (first
    | (refine' item_tupleT ?z360zt ?z360za ?z360zb ?z360zc ?z360zd ?_; (case z360zt => exact News.isTup (by k_asm) (by k_mem)); (case z360za => decide); (case z360zb => decide); (case z360zc => exact rfl); (case z360zd => exact rfl); k_whole)
    | (refine' c_item ?z360zN ?z360zm ?z360za ?z360zb ?z360zc ?_ ?z360zz; (case z360zN => k_asm); (case z360zm => k_mem); (case z360za => decide); (case z360zb => decide); (case z360zc => exact rfl); (case z360zz => with_unfolding_all rfl); k_whole)))
  k_with "subscriptTail Name Constant ref int" =>
    (k_here; (with_reducible show wpAny _ _ (subscriptTail _ _ (Value.ref _) (Value.int _ _)) _ _ _); k_dflt (first
    | (refine' item_tupleT ?z361zt ?z361za ?z361zb ?z361zc ?z361zd ?_; (case z361zt => exact News.isTup (by k_asm) (by k_mem)); (case z361za => decide); (case z361zb => decide); (case z361zc => exact rfl); (case z361zd => exact rfl); k_whole)
    | (refine' c_item ?z361zN ?z361zm ?z361za ?z361zb ?z361zc ?_ ?z361zz; (case z361zN => k_asm); (case z361zm => k_mem); (case z361za => decide); (case z361zb => decide); (case z361zc => exact rfl); (case z361zz => with_unfolding_all rfl); k_whole)))
  trivial
section
variable {w : World} {mean : ExcName → Option Value} {mg mb : PySem.Str → Option Value} {dp un : Nat} {gd : Option (List Code)} {cn : PySem.Str} {cs : Scope} {a₀ : Addr} {ccd : Value} {cl : List (PySem.Str × Addr)} {outer : List Env}
  {A₀ : Around} {base h₀ : Heap} {L : Addr} {m : PySem.Str → Option Value} {s : Shared} {news : List (Addr × Obj)} {Q E : Value → Shared → Prop}
theorem lines_C13_2 : True := by
  k_with "call ref" =>
    (k_here; (with_reducible show wpAny _ _ (call (Value.ref 96) [Value.ref _, Value.ref _]) _ _ _); k_dflt (refine' c_times ?z362zcB ?z362zcF ?z362zcX ?z362zcN ?z362zcT ?z362zcK ?z362zcD ?z362zcU ?z362zp0 ?z362zp1 ?z362zp2 ?z362zp3 ?z362zp4 ?z362zp5 ?z362zp6 ?z362zp7 ?_; (case z362zcB => k_asm); (case z362zcF => k_asm); (case z362zcX => k_asm); (case z362zcN => k_asm); (case z362zcT => k_asm); (case z362zcK => first | exact rfl | assumption); (case z362zcD => walk_at "c dp"); (case z362zcU => walk_at "c un"); (case z362zp0 => k_mem); (case z362zp1 => k_mem); (case z362zp2 => with_reducible assumption); (case z362zp3 => k_mem); (case z362zp4 => k_mem); (case z362zp5 => with_reducible assumption); (case z362zp6 => first | walk_at "c le" | decide | omega); (case z362zp7 => first | walk_at "c le" | decide | omega); intro x' d' q1' q2' q3' q4' h' tk' F' N' l1 l2 hq'; (try simp only [AllLt, and_true] at l1); (try k_lt2 l2); (try k_sweep); (try dsimp only); (try k_fold)))
  k_with "call ref" =>
    (k_here; (with_reducible show wpAny _ _ (call (Value.ref 89) [Value.ref _, Value.ref _]) _ _ _); k_dflt (refine' c_minus ?z363zcB ?z363zcF ?z363zcX ?z363zcN ?z363zcT ?z363zcK ?z363zcD ?z363zcU ?z363zp0 ?z363zp1 ?z363zp2 ?z363zp3 ?z363zp4 ?z363zp5 ?z363zp6 ?z363zp7 ?_; (case z363zcB => k_asm); (case z363zcF => k_asm); (case z363zcX => k_asm); (case z363zcN => k_asm); (case z363zcT => k_asm); (case z363zcK => first | exact rfl | assumption); (case z363zcD => walk_at "c dp"); (case z363zcU => walk_at "c un"); (case z363zp0 => k_mem); (case z363zp1 => k_mem); (case z363zp2 => with_reducible assumption); (case z363zp3 => k_mem); (case z363zp4 => k_mem); (case z363zp5 => with_reducible assumption); (case z363zp6 => first | walk_at "c le" | decide | omega); (case z363zp7 => first | walk_at "c le" | decide | omega); intro x' d' q1' q2' q3' q4' h' tk' F' N' l1 l2 hq'; (try simp only [AllLt, and_true] at l1); (try k_lt2 l2); (try k_sweep); (try dsimp only); (try k_fold)))
  k_with "call ref" =>
    (k_here; (with_reducible show wpAny _ _ (call (Value.ref 82) [Value.ref _, Value.ref _]) _ _ _); k_dflt (refine' c_plus ?z364zcB ?z364zcF ?z364zcX ?z364zcN ?z364zcT ?z364zcK ?z364zcD ?z364zcU ?z364zp0 ?z364zp1 ?z364zp2 ?z364zp3 ?z364zp4 ?z364zp5 ?z364zp6 ?z364zp7 ?_; (case z364zcB => k_asm); (case z364zcF => k_asm); (case z364zcX => k_asm); (case z364zcN => k_asm); (case z364zcT => k_asm); (case z364zcK => first | exact rfl | assumption); (case z364zcD => walk_at "c dp"); (case z364zcU => walk_at "c un"); (case z364zp0 => k_mem); (case z364zp1 => k_mem); (case z364zp2 => with_reducible assumption); (case z364zp3 => k_mem); (case z364zp4 => k_mem); (case z364zp5 => with_reducible assumption); (case z364zp6 => first | walk_at "c le" | decide | omega); (case z364zp7 => first | walk_at "c le" | decide | omega); intro x' d' q1' q2' q3' q4' h' tk' F' N' l1 l2 hq'; (try simp only [AllLt, and_true] at l1); (try k_lt2 l2); (try k_sweep); (try dsimp only); (try k_fold)))
  k_with "call ref" =>
    (k_here; (with_reducible show wpAny _ _ (call (Value.ref 279) [Value.ref _, Value.int 0 _, Value.int 0 _, Value.ref _, Value.ref _, Value.ref _]) _ _ _); k_dflt (refine' c_mat4 ?z365zcB ?z365zcF ?z365zcX ?z365zcN ?z365zcT ?z365zcK ?z365zcD ?z365zcU ?z365zp0 ?z365zp1 ?z365zp2 ?z365zp3 ?z365zp4 ?z365zp5 ?z365zp6 ?z365zp7 ?_; (case z365zcB => k_asm); (case z365zcF => k_asm); (case z365zcX => k_asm); (case z365zcN => k_asm); (case z365zcT => k_asm); (case z365zcK => first | exact rfl | assumption); (case z365zcD => walk_at "c dp"); (case z365zcU => walk_at "c un"); (case z365zp0 => k_mem); (case z365zp1 => k_mem); (case z365zp2 => k_mem); (case z365zp3 => k_mem); (case z365zp4 => k_mem); (case z365zp5 => k_mem); (case z365zp6 => k_mem); (case z365zp7 => k_mem); intro x' d' xb' db' xc' dc' k1' k2' k3' k4' k5' k6' kb1' kb2' kb3' kb4' kc1' kc2' kc3' kc4' h' tk' F' N' hq'; (try k_sweep); (try dsimp only); (try k_fold)))
  k_with "call ref" =>
    (k_here; (with_reducible show wpAny _ _ (call (Value.ref 314) [Value.ref _, Value.ref _]) _ _ _); k_dflt (refine' c_tbox ?z366zcB ?z366zcF ?z366zcX ?z366zcN ?z366zcT ?z366zcK ?z366zcD ?z366zcU ?z366zp0 ?z366zp1 ?z366zp2 ?z366zp3 ?z366zp4 ?z366zp5 ?z366zp6 ?z366zp7 ?z366zp8 ?z366zp9 ?z366zp10 ?z366zp11 ?z366zp12 ?z366zp13 ?z366zp14 ?z366zp15 ?z366zp16 ?z366zp17 ?z366zp18 ?z366zp19 ?z366zp20 ?z366zp21 ?z366zp22 ?z366zp23 ?z366zp24 ?z366zp25 ?z366zp26 ?z366zp27 ?z366zp28 ?z366zp29 ?z366zp30 ?z366zp31 ?z366zp32 ?z366zp33 ?z366zp34 ?_; (case z366zcB => k_asm); (case z366zcF => k_asm); (case z366zcX => k_asm); (case z366zcN => k_asm); (case z366zcT => k_asm); (case z366zcK => first | exact rfl | assumption); (case z366zcD => walk_at "c dp"); (case z366zcU => walk_at "c un"); (case z366zp32 => k_mem); (case z366zp0 => k_mem); (case z366zp1 => k_mem); (case z366zp2 => with_reducible assumption); (case z366zp3 => k_mem); (case z366zp4 => k_mem); (case z366zp5 => with_reducible assumption); (case z366zp6 => k_mem); (case z366zp7 => k_mem); (case z366zp8 => with_reducible assumption); (case z366zp9 => k_mem); (case z366zp10 => k_mem); (case z366zp11 => with_reducible assumption); (case z366zp12 => k_mem); (case z366zp13 => k_mem); (case z366zp14 => k_mem); (case z366zp15 => k_mem); (case z366zp16 => with_reducible assumption); (case z366zp17 => k_mem); (case z366zp18 => k_mem); (case z366zp19 => with_reducible assumption); (case z366zp20 => k_mem); (case z366zp21 => k_mem); (case z366zp22 => with_reducible assumption); (case z366zp23 => k_mem); (case z366zp24 => k_mem); (case z366zp25 => with_reducible assumption); (case z366zp26 => k_mem); (case z366zp27 => k_mem); (case z366zp28 => with_reducible assumption); (case z366zp29 => k_mem); (case z366zp30 => k_mem); (case z366zp31 => with_reducible assumption); (case z366zp33 => first | walk_at "c le" | decide | omega); (case z366zp34 => first | walk_at "c le" | decide | omega); intro t' r1' e1' i1' j1' k1' l1' r2' e2' i2' j2' k2' l2' r3' e3' i3' j3' k3' l3' r4' e4' i4' j4' k4' l4' h' tk' F' N' hq1' hq2' hq3' hq4'; (try k_sweep); (try dsimp only); (try k_fold)))
  k_with "call ref" =>
    (k_here; (with_reducible show wpAny _ _ (call (Value.ref 321) [Value.ref _]) _ _ _); k_dflt (refine' c_boxsizeI ?z367zcB ?z367zcF ?z367zcX ?z367zcN ?z367zcT ?z367zcK ?z367zcD ?z367zcU ?z367zp0 ?z367zp1 ?z367zp2 ?z367zp3 ?z367zp4 ?z367zp5 ?z367zp6 ?z367zp7 ?z367zp8 ?z367zp9 ?z367zp10 ?z367zp11 ?z367zp12 ?z367zp13 ?z367zp14 ?z367zp15 ?_; (case z367zcB => k_asm); (case z367zcF => k_asm); (case z367zcX => k_asm); (case z367zcN => k_asm); (case z367zcT => k_asm); (case z367zcK => first | exact rfl | assumption); (case z367zcD => walk_at "c dp"); (case z367zcU => walk_at "c un"); (case z367zp12 => k_mem); (case z367zp0 => k_mem); (case z367zp1 => k_mem); (case z367zp2 => with_reducible assumption); (case z367zp3 => k_mem); (case z367zp4 => k_mem); (case z367zp5 => with_reducible assumption); (case z367zp6 => k_mem); (case z367zp7 => k_mem); (case z367zp8 => with_reducible assumption); (case z367zp9 => k_mem); (case z367zp10 => k_mem); (case z367zp11 => with_reducible assumption); (case z367zp13 => with_reducible assumption); (case z367zp14 => with_reducible assumption); (case z367zp15 => first | walk_at "c le" | decide | omega); intro t' u' du' v' dv' ku1' ku2' ku3' ku4' kv1' kv2' kv3' kv4' h' tk' F' N' hq1' hq2'; (try k_sweep); (try dsimp only); (try k_fold)))
  k_with "call ref" =>
    (k_here; (with_reducible show wpAny _ _ (call (Value.ref 328) [Value.ref _, Value.ref _, Value.int _ _]) _ _ _); k_dflt (refine' c_stretch ?z368zcB ?z368zcF ?z368zcX ?z368zcN ?z368zcT ?z368zcK ?z368zcD ?z368zcU ?z368zp0 ?z368zp1 ?z368zp2 ?z368zp3 ?z368zp4 ?z368zp5 ?z368zp6 ?z368zp7 ?z368zp8 ?_; (case z368zcB => k_asm); (case z368zcF => k_asm); (case z368zcX => k_asm); (case z368zcN => k_asm); (case z368zcT => k_asm); (case z368zcK => first | exact rfl | assumption); (case z368zcD => walk_at "c dp"); (case z368zcU => walk_at "c un"); (case z368zp0 => k_mem); (case z368zp1 => k_mem); (case z368zp2 => with_reducible assumption); (case z368zp3 => k_mem); (case z368zp4 => k_mem); (case z368zp5 => with_reducible assumption); (case z368zp6 => first | walk_at "c le" | decide | omega); (case z368zp7 => first | walk_at "c le" | decide | omega); (case z368zp8 => with_reducible assumption); intro x' d' q1' q2' q3' q4' h' tk' F' N' l1 l2 hq'; (try simp only [AllLt, and_true] at l1); (try k_lt2 l2); (try k_sweep); (try dsimp only); (try k_fold)))
  k_with "call ref" =>
    (k_here; (with_reducible show wpAny _ _ (call (Value.ref 250) [Value.ref _, Value.ref _]) _ _ _); k_dflt (refine' c_mtimes (k := 67) ?z369zcB ?z369zcF ?z369zcX ?z369zcN ?z369zcT ?z369zcK ?z369zcD ?z369zcU ?z369zp0 ?z369zp1 ?z369zp2 ?z369zp3 ?z369zp4 ?z369zp5 ?z369zp6 ?z369zp7 ?z369zp8 ?z369zp9 ?z369zp10 ?z369zp11 ?z369zp12 ?z369zp13 ?z369zp14 ?z369zp15 ?z369zp16 ?z369zp17 ?z369zp18 ?z369zp19 ?z369zp20 ?z369zp21 ?z369zp22 ?z369zp23 ?z369zp24 ?z369zp25 ?z369zp26 ?z369zp27 ?z369zp28 ?z369zp29 ?z369zp30 ?z369zp31 ?z369zp32 ?z369zp33 ?z369zp34 ?z369zp35 ?z369zp36 ?z369zp37 ?z369zp38 ?z369zp39 ?z369zp40 ?z369zp41 ?_; (case z369zcB => k_asm); (case z369zcF => k_asm); (case z369zcX => k_asm); (case z369zcN => k_asm); (case z369zcT => k_asm); (case z369zcK => first | exact rfl | assumption); (case z369zcD => walk_at "c dp"); (case z369zcU => walk_at "c un"); (case z369zp0 => k_mem); (case z369zp1 => k_mem); (case z369zp2 => k_mem); (case z369zp3 => k_mem); (case z369zp4 => with_reducible assumption); (case z369zp5 => k_mem); (case z369zp6 => k_mem); (case z369zp7 => with_reducible assumption); (case z369zp8 => k_mem); (case z369zp9 => k_mem); (case z369zp10 => with_reducible assumption); (case z369zp11 => k_mem); (case z369zp12 => k_mem); (case z369zp13 => with_reducible assumption); (case z369zp14 => k_mem); (case z369zp15 => k_mem); (case z369zp16 => with_reducible assumption); (case z369zp17 => k_mem); (case z369zp18 => k_mem); (case z369zp19 => with_reducible assumption); (case z369zp20 => k_mem); (case z369zp21 => k_mem); (case z369zp22 => k_mem); (case z369zp23 => k_mem); (case z369zp24 => (refine' DecQ.mono ?z369ze9 ?z369zf9; (case z369ze9 => with_reducible assumption); (case z369zf9 => omega))); (case z369zp25 => k_mem); (case z369zp26 => k_mem); (case z369zp27 => (refine' DecQ.mono ?z369ze9 ?z369zf9; (case z369ze9 => with_reducible assumption); (case z369zf9 => omega))); (case z369zp28 => k_mem); (case z369zp29 => k_mem); (case z369zp30 => (refine' DecQ.mono ?z369ze9 ?z369zf9; (case z369ze9 => with_reducible assumption); (case z369zf9 => omega))); (case z369zp31 => k_mem); (case z369zp32 => k_mem); (case z369zp33 => (refine' DecQ.mono ?z369ze9 ?z369zf9; (case z369ze9 => with_reducible assumption); (case z369zf9 => omega))); (case z369zp34 => k_mem); (case z369zp35 => k_mem); (case z369zp36 => (refine' DecQ.mono ?z369ze9 ?z369zf9; (case z369ze9 => with_reducible assumption); (case z369zf9 => omega))); (case z369zp37 => k_mem); (case z369zp38 => k_mem); (case z369zp39 => (refine' DecQ.mono ?z369ze9 ?z369zf9; (case z369ze9 => with_reducible assumption); (case z369zf9 => omega))); (case z369zp40 => first | walk_at "c le" | decide | omega); (case z369zp41 => first | walk_at "c le" | decide | omega); intro x' d' k1' k2' k3' k4' k5' k6' a' da' ka1' ka2' ka3' ka4' b' db' kb1' kb2' kb3' kb4' c' dc' kc1' kc2' kc3' kc4' d' dd' kd1' kd2' kd3' kd4' e' de' ke1' ke2' ke3' ke4' f' df' kf1' kf2' kf3' kf4' h' tk' F' N' l1 hqa' hqb' hqc' hqd' hqe' hqf'; (try k_sweep); (try dsimp only); (try k_fold)))
  trivial

theorem c_amat (B : Below A₀ base outer h₀) (F : Fr h₀ L s.heap m) (X : (Mine.hd0.heap_1 w.params).In h₀) (N : News h₀ L s.heap news) (T : Top VW LS mean mg mb h₀) (hk : cs.kind = .function) (hd : dp + 60 < recursionLimit) (hu : un + 600 < cLine) {f : Addr} {a da : Addr} {qa : Rat} {ka1 ka2 ka3 ka4 : Tok} (ha : (a, instObj 155 da) ∈ news) (hda : (da, decObj w qa ka1 ka2 ka3 ka4) ∈ news) (hqa : DecQ qa 3) {b db : Addr} {qb : Rat} {kb1 kb2 kb3 kb4 : Tok} (hb : (b, instObj 155 db) ∈ news) (hdb : (db, decObj w qb kb1 kb2 kb3 kb4) ∈ news) (hqb : DecQ qb 3) {c dc : Addr} {qc : Rat} {kc1 kc2 kc3 kc4 : Tok} (hc : (c, instObj 155 dc) ∈ news) (hdc : (dc, decObj w qc kc1 kc2 kc3 kc4) ∈ news) (hqc : DecQ qc 3) {d dd : Addr} {qd : Rat} {kd1 kd2 kd3 kd4 : Tok} (hd_ : (d, instObj 155 dd) ∈ news) (hdd : (dd, decObj w qd kd1 kd2 kd3 kd4) ∈ news) (hqd : DecQ qd 3) (hf : (f, ({ cls := .type "tuple", data := .seq #[.ref a, .ref b, .ref c, .ref d] } : Obj)) ∈ news) {xx dxx : Addr} {xxa xxb xxc xxd xxe xxf : Addr} {dxxa dxxb dxxc dxxd dxxe dxxf : Addr} {ma mb mc md me mf : Rat} {kxx1 kxx2 kxx3 kxx4 kxx5 kxx6 : Tok} {kxxa1 kxxa2 kxxa3 kxxa4 kxxb1 kxxb2 kxxb3 kxxb4 kxxc1 kxxc2 kxxc3 kxxc4 kxxd1 kxxd2 kxxd3 kxxd4 kxxe1 kxxe2 kxxe3 kxxe4 kxxf1 kxxf2 kxxf3 kxxf4 : Tok} (hxx : (xx, instObj 279 dxx) ∈ news) (hdxx : (dxx, matObj w xxa xxb xxc xxd xxe xxf kxx1 kxx2 kxx3 kxx4 kxx5 kxx6) ∈ news) (hxxa : (xxa, instObj 155 dxxa) ∈ news) (hdxxa : (dxxa, decObj w ma kxxa1 kxxa2 kxxa3 kxxa4) ∈ news) (hqxxa : DecQ ma 3) (hxxb : (xxb, instObj 155 dxxb) ∈ news) (hdxxb : (dxxb, decObj w mb kxxb1 kxxb2 kxxb3 kxxb4) ∈ news) (hqxxb : DecQ mb 3) (hxxc : (xxc, instObj 155 dxxc) ∈ news) (hdxxc : (dxxc, decObj w mc kxxc1 kxxc2 kxxc3 kxxc4) ∈ news) (hqxxc : DecQ mc 3) (hxxd : (xxd, instObj 155 dxxd) ∈ news) (hdxxd : (dxxd, decObj w md kxxd1 kxxd2 kxxd3 kxxd4) ∈ news) (hqxxd : DecQ md 3) (hxxe : (xxe, instObj 155 dxxe) ∈ news) (hdxxe : (dxxe, decObj w me kxxe1 kxxe2 kxxe3 kxxe4) ∈ news) (hqxxe : DecQ me 3) (hxxf : (xxf, instObj 155 dxxf) ∈ news) (hdxxf : (dxxf, decObj w mf kxxf1 kxxf2 kxxf3 kxxf4) ∈ news) (hqxxf : DecQ mf 3) {g : Addr} {te dte : Addr} {qte : Rat} {kte1 kte2 kte3 kte4 : Tok} (hte : (te, instObj 155 dte) ∈ news) (hdte : (dte, decObj w qte kte1 kte2 kte3 kte4) ∈ news) (hqte : DecQ qte 3) {tf dtf : Addr} {qtf : Rat} {ktf1 ktf2 ktf3 ktf4 : Tok} (htf : (tf, instObj 155 dtf) ∈ news) (hdtf : (dtf, decObj w qtf ktf1 ktf2 ktf3 ktf4) ∈ news) (hqtf : DecQ qtf 3) {tg dtg : Addr} {qtg : Rat} {ktg1 ktg2 ktg3 ktg4 : Tok} (htg : (tg, instObj 155 dtg) ∈ news) (hdtg : (dtg, decObj w qtg ktg1 ktg2 ktg3 ktg4) ∈ news) (hqtg : DecQ qtg 3) {th dth : Addr} {qth : Rat} {kth1 kth2 kth3 kth4 : Tok} (hth : (th, instObj 155 dth) ∈ news) (hdth : (dth, decObj w qth kth1 kth2 kth3 kth4) ∈ news) (hqth : DecQ qth 3) (hg : (g, ({ cls := .type "tuple", data := .seq #[.ref te, .ref tf, .ref tg, .ref th] } : Obj)) ∈ news) {x y x2 y2 : Int} {pl : Int} {tp : Tok}
   (eW : max (max (max ((ma * qa + mc * qb + me)) ((ma * qc + mc * qb + me))) ((ma * qc + mc * qd + me))) ((ma * qa + mc * qd + me)) - (min (min (min ((ma * qa + mc * qb + me)) ((ma * qc + mc * qb + me))) ((ma * qc + mc * qd + me))) ((ma * qa + mc * qd + me))) = (x : Rat)) (eH : max (max (max ((mb * qa + md * qb + mf)) ((mb * qc + md * qb + mf))) ((mb * qc + md * qd + mf))) ((mb * qa + md * qd + mf)) - (min (min (min ((mb * qa + md * qb + mf)) ((mb * qc + md * qb + mf))) ((mb * qc + md * qd + mf))) ((mb * qa + md * qd + mf))) = (y : Rat)) (eW2 : qtg - qte = (x2 : Rat)) (eH2 : qth - qtf = (y2 : Rat)) (hx : x = 0 ∨ Nice x) (hy : y = 0 ∨ Nice y)
   (ret : RetMat w h₀ L m news s Q (ma * (strq x x2) + mb * (((0 : Int) : Rat))) (ma * (((0 : Int) : Rat)) + mb * (strq y y2)) (mc * (strq x x2) + md * (((0 : Int) : Rat))) (mc * (((0 : Int) : Rat)) + md * (strq y y2)) ((strq x x2) * me + (((0 : Int) : Rat)) * mf + ((qte - (min (min (min ((ma * qa + mc * qb + me)) ((ma * qc + mc * qb + me))) ((ma * qc + mc * qd + me))) ((ma * qa + mc * qd + me))) * strq x x2))) ((((0 : Int) : Rat)) * me + (strq y y2) * mf + ((qtf - (min (min (min ((mb * qa + md * qb + mf)) ((mb * qc + md * qb + mf))) ((mb * qc + md * qd + mf))) ((mb * qa + md * qd + mf))) * strq y y2))) (213)) : wpAny (model PySem.Challenge.rw_qz0079_01.row.prog w) (ktrTop dp un gd cn cs L a₀ ccd cl outer) (call (.ref 335) [.ref f, .ref xx, .ref g, .int pl tp]) Q E s := by
  revert X; k_fill; intro X
  w_on
  refine wpAny_call ?_
  k_dflt ktr_enter
  k_steps
  rename Fr h₀ L _ m => kF
  rename News h₀ L _ _ => kN
  exact ret _ _ _ _ _ _ _ _ _ _ _ _ _ _ _ _ _ _ _ _ _ _ _ _ _ _ _ _ _ _ _ _ _ _ _ _ _ _ _ _ _ _ _ _ _ _ kF (cb_drop kN (by walk_at "c sub")) (fresh_sub (by with_reducible assumption) (by walk_at "c sub")) (by with_reducible assumption) (by with_reducible assumption) (by with_reducible assumption) (by with_reducible assumption) (by with_reducible assumption) (by with_reducible assumption)

end
end PartC13
section PartC14
theorem lines_C14_1 : True := by
  k_with_none
  k_with "c mem" =>
    first | ((with_reducible refine' mem_here ?z370zh9); (case z370zh9 => exact rfl)) | ((with_reducible refine' mem_nth 1 ?z370zh9); (case z370zh9 => exact rfl)) | ((with_reducible refine' mem_nth 2 ?z370zh9); (case z370zh9 => exact rfl)) | ((with_reducible refine' mem_nth 3 ?z370zh9); (case z370zh9 => exact rfl)) | ((with_reducible refine' mem_nth 4 ?z370zh9); (case z370zh9 => exact rfl)) | ((with_reducible refine' mem_nth 5 ?z370zh9); (case z370zh9 => exact rfl)) | ((with_reducible refine' mem_nth 6 ?z370zh9); (case z370zh9 => exact rfl)) | ((with_reducible refine' mem_nth 7 ?z370zh9); (case z370zh9 => exact rfl)) | ((with_reducible refine' mem_nth 8 ?z370zh9); (case z370zh9 => exact rfl)) | ((with_reducible refine' mem_nth 9 ?z370zh9); (case z370zh9 => exact rfl)) | ((with_reducible refine' mem_skip ?_); walk_at "c mem") | (with_reducible exact List.mem_append_left _ (by with_reducible assumption)) | ktr_member | ((with_reducible refine' List.mem_cons_of_mem _ ?_); walk_at "c mem") | ((with_reducible refine' List.mem_append_right _ ?_); walk_at "c mem")
  k_with "c room" =>
    with_reducible first | assumption | exact room1 (by assumption) rfl | exact room2 (by assumption) rfl | exact room3 (by assumption) rfl | exact room4 (by assumption) rfl
  k_with "c le" =>
    with_reducible first | assumption | exact Nat.le_trans (by assumption) (by decide)
  k_with "c lt1" =>
    with_reducible first | assumption | exact cj0 | exact cj1 | exact cj2 | exact cj3 | exact cj4 | exact cj5 | exact cj6 | exact cj7 | exact cj8 | exact cj9 | exact cj10 | exact cj11 | exact cj12 | exact cj13 | exact cj14 | exact cj15 | exact cj16 | exact cj17 | exact cj18 | exact cj19 | exact cj20 | exact cj21 | exact cj22 | exact cj23 | exact And.right (by with_reducible assumption) | exact And.right (And.right (by with_reducible assumption)) | exact And.right (And.right (And.right (by with_reducible assumption))) | exact And.right (And.right (And.right (And.right (by with_reducible assumption))))
  k_with "c lt2" =>
    ((with_reducible refine' Nat.lt_trans ?z374za9 ?z374zb9); (case z374zb9 => with_reducible assumption); (case z374za9 => walk_at "c lt1"))
  k_with "c lt" =>
    first | walk_at "c lt1" | walk_at "c lt2"
  k_with "c up3" =>
    with_reducible first | exact abv3 (by assumption) | exact abv3_1 (by assumption) | exact abv3_2 (by assumption) | exact abv3_3 (by assumption) | exact abv3_4 (by assumption) | (refine' Abv3.tr ?z376za9 ?z376zb9; (case z376za9 => assumption); (case z376zb9 => walk_at "c up3"))
  k_with "c ne" =>
    first | with_reducible (first | assumption | exact And.left (by assumption) | exact Ne.symm (And.left (by assumption)) | exact And.left (And.right (by assumption)) | exact Ne.symm (And.left (And.right (by assumption))) | exact And.right (And.right (by assumption)) | exact Ne.symm (And.right (And.right (by assumption))) | exact neq_lt (by assumption) | exact neq_gt (by assumption) | exact nl0 | exact nr0 | exact nl1 | exact nr1 | exact nl2 | exact nr2 | exact nl3 | exact nr3 | exact nl4 | exact nr4 | exact nl5 | exact nr5 | exact nl6 | exact nr6 | exact nl7 | exact nr7 | exact nl8 | exact nr8 | exact nl9 | exact nr9 | exact nl10 | exact nr10 | exact nl11 | exact nr11 | exact nl12 | exact nr12 | exact nl13 | exact nr13 | exact nl14 | exact nr14 | exact nl15 | exact nr15 | exact nl16 | exact nr16 | exact nl17 | exact nr17 | exact nl18 | exact nr18 | exact nl19 | exact nr19 | exact nl20 | exact nr20 | exact nl21 | exact nr21 | exact nl22 | exact nr22 | exact nl23 | exact nr23) | ((with_reducible refine' neq_lt ?z377zz9); (case z377zz9 => walk_at "c lt2")) | ((with_reducible refine' neq_gt ?z377zz9); (case z377zz9 => walk_at "c lt2")) | ((try dsimp only); omega)
  k_with "c dp" =>
    ((try simp only [depth_under_make, depth_under_kw, depth_in1, depth_deeper, depth_caller]); (try dsimp only [ktrTop]); first | walk_at "c room" | omega | decide)
  k_with "c un" =>
    ((try simp only [units_make, units_in1, units_deeper, Around.mark_units, units_caller]); (try dsimp only [ktrTop]); first | walk_at "c room" | omega | decide)
  k_with "c sub" =>
    first | (refine List.forall_mem_cons.mpr ⟨?z380za, ?z380zb⟩; (case z380za => walk_at "c mem"); (case z380zb => walk_at "c sub")) | exact List.forall_mem_nil _ | (intro p9 h9; (repeat (first | exact h9 | refine List.mem_cons_of_mem _ ?_ | refine List.mem_append_left _ ?_)))
  k_with "c bnd" =>
    with_reducible (first | assumption | exact Bnd.pow _ | (refine' Bnd.fdiv ?z381za; (case z381za => walk_at "c bnd")) | (exact Bnd.mul (by walk_at "c bnd") (by walk_at "c bnd")) | (exact Bnd.add1 (by walk_at "c bnd") (by walk_at "c bnd")) | (exact Bnd.sub1 (by walk_at "c bnd") (by walk_at "c bnd")) | (exact Bnd.add (by walk_at "c bnd") (by walk_at "c bnd")) | (exact Bnd.sub (by walk_at "c bnd") (by walk_at "c bnd")))
  k_with "c ar" =>
    first | assumption | decide | omega | (split <;> omega)
  k_with "c mul" =>
    exact mulOk_bnd (by walk_at "c bnd") (by walk_at "c bnd") (by walk_at "c ar") (by walk_at "c ar")
  k_with "binaryOp Pow int int" =>
    ((with_reducible refine pow_int_small ?z384zkb1 ?z384zkb2 ?z384zkb3 ?_); (case z384zkb1 => walk_at "c ar"); (case z384zkb2 => walk_at "c ar"); (case z384zkb3 => decide))
  k_with "call ref" =>
    (k_here; (with_reducible show wpAny _ _ (call (Prod.fst _) (_ ++ _)) _ _ _); dsimp only [List.nil_append, List.cons_append])
  k_with "subscriptTail" =>
    (k_here; (with_reducible show wpAny _ _ (subscriptTail _ _ (Value.ref _) (Value.int _ _)) _ _ _); k_dflt (first
    | (refine' item_tupleT ?z386zt ?z386za ?z386zb ?z386zc ?z386zd ?_; (case z386zt => exact News.isTup (by k_asm) (by k_mem)); (case z386za => decide); (case z386zb => decide); (case z386zc => exact rfl); (case z386zd => exact rfl); k_whole)
    | (refine' c_item ?z386zN ?z386zm ?z386za ?z386zb ?z386zc ?_ ?z386zz; (case z386zN => k_asm); (case z386zm => k_mem); (case z386za => decide); (case z386zb => decide); (case z386zc => exact rfl); (case z386zz => with_unfolding_all rfl); k_whole)))
  k_with "subscriptTail Name Constant ref int" =>
    (k_here; (with_reducible show wpAny _ _ (subscriptTail _ _ (Value.ref _) (Value.int _ _)) _ _ _); k_dflt (first
    | (refine' item_tupleT ?z387zt ?z387za ?z387zb ?z387zc ?z387zd ?_; (case z387zt => exact News.isTup (by k_asm) (by k_mem)); (case z387za => decide); (case z387zb => decide); (case z387zc => exact rfl); (case z387zd => exact rfl); k_whole)
    | (refine' c_item ?z387zN ?z387zm ?z387za ?z387zb ?z387zc ?_ ?z387zz; (case z387zN => k_asm); (case z387zm => k_mem); (case z387za => decide); (case z387zb => decide); (case z387zc => exact rfl); (case z387zz => with_unfolding_all rfl); k_whole)))
  trivial
section
variable {w : World} {mean : ExcName → Option Value} {mg mb : PySem.Str → Option Value} {dp un : Nat} {gd : Option (List Code)} {cn : PySem.Str} {cs : Scope} {a₀ : Addr} {ccd : Value} {cl : List (PySem.Str × Addr)} {outer : List Env}
  {A₀ : Around} {base h₀ : Heap} {L : Addr} {m : PySem.Str → Option Value} {s : Shared} {news : List (Addr × Obj)} {Q E : Value → Shared → Prop}
theorem lines_C14_2 : True := by
  k_with "call builtin:isinstance" =>
    (k_here; (with_reducible show wpAny _ _ (call _ [Value.ref _, _]) _ _ _); k_dflt (refine' kia_one kitx_dict ?z388zX ?z388zp ?z388zee ?z388znb ?_; (case z388zp => exact kitAt_N (by k_asm) (by k_mem) (DictIs.cls (by assumption))); (case z388zX => k_in); (case z388zee => kit_is); (case z388znb => kit_nb); k_whole; intro _))
  k_with "getMethod ref" =>
    (k_here; (with_reducible show wpAny _ _ (getMethod (Value.ref _) (PySem.Str.ofString "get") _) _ _ _); k_dflt (refine kdg_method (knd := PySem.strKind _ _) (by k_asm) (by k_mem) (DictIs.is (by assumption)) ?_))
  k_with "call builtin:dict.get" =>
    (k_here; k_dflt (first
    | refine kdg_get1 (knd := PySem.strKind _ _) (by k_asm) (by k_mem) (DictIs.is (by assumption)) (DictIs.lo (by assumption)) (strKind_is _ _ _ _) (some _) (by rfl) ?_
    | refine kdg_get1 (knd := PySem.strKind _ _) (by k_asm) (by k_mem) (DictIs.is (by assumption)) (DictIs.lo (by assumption)) (strKind_is _ _ _ _) none (by rfl) ?_); (try dsimp only [Option.getD]))
  trivial

theorem c_fetch_int (B : Below A₀ base outer h₀) (F : Fr h₀ L s.heap m) (X : (Mine.hd0.heap_1 w.params).In h₀) (N : News h₀ L s.heap news) (T : Top VW LS mean mg mb h₀) (hk : cs.kind = .function) (hd : dp + 10 < recursionLimit) (hu : un + 100 < cLine) {sh : Addr} {k : Int} {t : Tok} (ret : ∀ h' tk', Fr h₀ L h' m → News h₀ L h' news → Q (.int k t) { s with heap := h', toks := tk' }) : wpAny (model PySem.Challenge.rw_qz0079_01.row.prog w) (ktrTop dp un gd cn cs L a₀ ccd cl outer) (call (.ref 463) [.ref sh, .int k t]) Q E s := by
  revert X; k_fill; intro X
  w_on
  refine wpAny_call ?_
  k_dflt ktr_enter
  (k_with "pyIter ref" => kf1_first)
  k_steps
  rename Fr h₀ L _ m => kF
  rename News h₀ L _ _ => kN
  exact ret _ _ kF (cb_drop kN (by walk_at "c sub"))

theorem c_fetch_none (B : Below A₀ base outer h₀) (F : Fr h₀ L s.heap m) (X : (Mine.hd0.heap_1 w.params).In h₀) (N : News h₀ L s.heap news) (T : Top VW LS mean mg mb h₀) (hk : cs.kind = .function) (hd : dp + 10 < recursionLimit) (hu : un + 100 < cLine) {sh : Addr}  (ret : ∀ h' tk', Fr h₀ L h' m → News h₀ L h' news → Q (.none) { s with heap := h', toks := tk' }) : wpAny (model PySem.Challenge.rw_qz0079_01.row.prog w) (ktrTop dp un gd cn cs L a₀ ccd cl outer) (call (.ref 463) [.ref sh, .none]) Q E s := by
  revert X; k_fill; intro X
  w_on
  refine wpAny_call ?_
  k_dflt ktr_enter
  (k_with "pyIter ref" => kf1_first)
  k_steps
  rename Fr h₀ L _ m => kF
  rename News h₀ L _ _ => kN
  exact ret _ _ kF (cb_drop kN (by walk_at "c sub"))

theorem c_fetch_list (B : Below A₀ base outer h₀) (F : Fr h₀ L s.heap m) (X : (Mine.hd0.heap_1 w.params).In h₀) (N : News h₀ L s.heap news) (T : Top VW LS mean mg mb h₀) (hk : cs.kind = .function) (hd : dp + 10 < recursionLimit) (hu : un + 100 < cLine) {sh : Addr} {l : Addr} {its : Array Value} {n9 : Nat} (hl : (l, listOf its n9) ∈ news) (ret : ∀ h' tk', Fr h₀ L h' m → News h₀ L h' news → Q (.ref l) { s with heap := h', toks := tk' }) : wpAny (model PySem.Challenge.rw_qz0079_01.row.prog w) (ktrTop dp un gd cn cs L a₀ ccd cl outer) (call (.ref 463) [.ref sh, .ref l]) Q E s := by
  revert X; k_fill; intro X
  w_on
  refine wpAny_call ?_
  k_dflt ktr_enter
  (k_with "pyIter ref" => kf1_first)
  k_steps
  rename Fr h₀ L _ m => kF
  rename News h₀ L _ _ => kN
  exact ret _ _ kF (cb_drop kN (by walk_at "c sub"))

theorem c_fetch_stream (B : Below A₀ base outer h₀) (F : Fr h₀ L s.heap m) (X : (Mine.hd0.heap_1 w.params).In h₀) (N : News h₀ L s.heap news) (T : Top VW LS mean mg mb h₀) (hk : cs.kind = .function) (hd : dp + 10 < recursionLimit) (hu : un + 100 < cLine) {sh : Addr} {x dx hh : Addr} {oc : Value} {k1 k2 : Tok} (hx : (x, instObj 395 dx) ∈ news) (hdx : (dx, streamObj w hh oc k1 k2) ∈ news) (ret : ∀ h' tk', Fr h₀ L h' m → News h₀ L h' news → Q (.ref x) { s with heap := h', toks := tk' }) : wpAny (model PySem.Challenge.rw_qz0079_01.row.prog w) (ktrTop dp un gd cn cs L a₀ ccd cl outer) (call (.ref 463) [.ref sh, .ref x]) Q E s := by
  revert X; k_fill; intro X
  w_on
  refine wpAny_call ?_
  k_dflt ktr_enter
  (k_with "pyIter ref" => kf1_first)
  k_steps
  rename Fr h₀ L _ m => kF
  rename News h₀ L _ _ => kN
  exact ret _ _ kF (cb_drop kN (by walk_at "c sub"))

theorem c_fetch_dict (B : Below A₀ base outer h₀) (F : Fr h₀ L s.heap m) (X : (Mine.hd0.heap_1 w.params).In h₀) (N : News h₀ L s.heap news) (T : Top VW LS mean mg mb h₀) (hk : cs.kind = .function) (hd : dp + 10 < recursionLimit) (hu : un + 100 < cLine) {sh : Addr} {d : Addr} {od : Obj} {kvs : List (PySem.Str × Value)} (hm9 : (d, od) ∈ news) (hd9 : DictIs w d od kvs) (ret : ∀ h' tk', Fr h₀ L h' m → News h₀ L h' news → Q (.ref d) { s with heap := h', toks := tk' }) : wpAny (model PySem.Challenge.rw_qz0079_01.row.prog w) (ktrTop dp un gd cn cs L a₀ ccd cl outer) (call (.ref 463) [.ref sh, .ref d]) Q E s := by
  revert X; k_fill; intro X
  w_on
  refine wpAny_call ?_
  k_dflt ktr_enter
  (k_with "pyIter ref" => kf1_first)
  k_steps
  rename Fr h₀ L _ m => kF
  rename News h₀ L _ _ => kN
  exact ret _ _ kF (cb_drop kN (by walk_at "c sub"))

end
end PartC14
section PartC15
theorem lines_C15_1 : True := by
  k_with_none
  k_with "c mem" =>
    first | ((with_reducible refine' mem_here ?z391zh9); (case z391zh9 => exact rfl)) | ((with_reducible refine' mem_nth 1 ?z391zh9); (case z391zh9 => exact rfl)) | ((with_reducible refine' mem_nth 2 ?z391zh9); (case z391zh9 => exact rfl)) | ((with_reducible refine' mem_nth 3 ?z391zh9); (case z391zh9 => exact rfl)) | ((with_reducible refine' mem_nth 4 ?z391zh9); (case z391zh9 => exact rfl)) | ((with_reducible refine' mem_nth 5 ?z391zh9); (case z391zh9 => exact rfl)) | ((with_reducible refine' mem_nth 6 ?z391zh9); (case z391zh9 => exact rfl)) | ((with_reducible refine' mem_nth 7 ?z391zh9); (case z391zh9 => exact rfl)) | ((with_reducible refine' mem_nth 8 ?z391zh9); (case z391zh9 => exact rfl)) | ((with_reducible refine' mem_nth 9 ?z391zh9); (case z391zh9 => exact rfl)) | ((with_reducible refine' mem_skip ?_); walk_at "c mem") | (with_reducible exact List.mem_append_left _ (by with_reducible assumption)) | ktr_member | ((with_reducible refine' List.mem_cons_of_mem _ ?_); walk_at "c mem") | ((with_reducible refine' List.mem_append_right _ ?_); walk_at "c mem")
  k_with "c room" =>
    with_reducible first | assumption | exact room1 (by assumption) rfl | exact room2 (by assumption) rfl | exact room3 (by assumption) rfl | exact room4 (by assumption) rfl
  k_with "c le" =>
    with_reducible first | assumption | exact Nat.le_trans (by assumption) (by decide)
  k_with "c lt1" =>
    with_reducible first | assumption | exact cj0 | exact cj1 | exact cj2 | exact cj3 | exact cj4 | exact cj5 | exact cj6 | exact cj7 | exact cj8 | exact cj9 | exact cj10 | exact cj11 | exact cj12 | exact cj13 | exact cj14 | exact cj15 | exact cj16 | exact cj17 | exact cj18 | exact cj19 | exact cj20 | exact cj21 | exact cj22 | exact cj23 | exact And.right (by with_reducible assumption) | exact And.right (And.right (by with_reducible assumption)) | exact And.right (And.right (And.right (by with_reducible assumption))) | exact And.right (And.right (And.right (And.right (by with_reducible assumption))))
  k_with "c lt2" =>
    ((with_reducible refine' Nat.lt_trans ?z395za9 ?z395zb9); (case z395zb9 => with_reducible assumption); (case z395za9 => walk_at "c lt1"))
  k_with "c lt" =>
    first | walk_at "c lt1" | walk_at "c lt2"
  k_with "c up3" =>
    with_reducible first | exact abv3 (by assumption) | exact abv3_1 (by assumption) | exact abv3_2 (by assumption) | exact abv3_3 (by assumption) | exact abv3_4 (by assumption) | (refine' Abv3.tr ?z397za9 ?z397zb9; (case z397za9 => assumption); (case z397zb9 => walk_at "c up3"))
  k_with "c ne" =>
    first | with_reducible (first | assumption | exact And.left (by assumption) | exact Ne.symm (And.left (by assumption)) | exact And.left (And.right (by assumption)) | exact Ne.symm (And.left (And.right (by assumption))) | exact And.right (And.right (by assumption)) | exact Ne.symm (And.right (And.right (by assumption))) | exact neq_lt (by assumption) | exact neq_gt (by assumption) | exact nl0 | exact nr0 | exact nl1 | exact nr1 | exact nl2 | exact nr2 | exact nl3 | exact nr3 | exact nl4 | exact nr4 | exact nl5 | exact nr5 | exact nl6 | exact nr6 | exact nl7 | exact nr7 | exact nl8 | exact nr8 | exact nl9 | exact nr9 | exact nl10 | exact nr10 | exact nl11 | exact nr11 | exact nl12 | exact nr12 | exact nl13 | exact nr13 | exact nl14 | exact nr14 | exact nl15 | exact nr15 | exact nl16 | exact nr16 | exact nl17 | exact nr17 | exact nl18 | exact nr18 | exact nl19 | exact nr19 | exact nl20 | exact nr20 | exact nl21 | exact nr21 | exact nl22 | exact nr22 | exact nl23 | exact nr23) | ((with_reducible refine' neq_lt ?z398zz9); (case z398zz9 => walk_at "c lt2")) | ((with_reducible refine' neq_gt ?z398zz9); (case z398zz9 => walk_at "c lt2")) | ((try dsimp only); omega)
  k_with "c dp" =>
    ((try simp only [depth_under_make, depth_under_kw, depth_in1, depth_deeper, depth_caller]); (try dsimp only [ktrTop]); first | walk_at "c room" | omega | decide)
  k_with "c un" =>
    ((try simp only [units_make, units_in1, units_deeper, Around.mark_units, units_caller]); (try dsimp only [ktrTop]); first | walk_at "c room" | omega | decide)
  k_with "c sub" =>
    first | (refine List.forall_mem_cons.mpr ⟨?z401za, ?z401zb⟩; (case z401za => walk_at "c mem"); (case z401zb => walk_at "c sub")) | exact List.forall_mem_nil _ | (intro p9 h9; (repeat (first | exact h9 | refine List.mem_cons_of_mem _ ?_ | refine List.mem_append_left _ ?_)))
  k_with "c bnd" =>
    with_reducible (first | assumption | exact Bnd.pow _ | (refine' Bnd.fdiv ?z402za; (case z402za => walk_at "c bnd")) | (exact Bnd.mul (by walk_at "c bnd") (by walk_at "c bnd")) | (exact Bnd.add1 (by walk_at "c bnd") (by walk_at "c bnd")) | (exact Bnd.sub1 (by walk_at "c bnd") (by walk_at "c bnd")) | (exact Bnd.add (by walk_at "c bnd") (by walk_at "c bnd")) | (exact Bnd.sub (by walk_at "c bnd") (by walk_at "c bnd")))
  k_with "c ar" =>
    first | assumption | decide | omega | (split <;> omega)
  k_with "c mul" =>
    exact mulOk_bnd (by walk_at "c bnd") (by walk_at "c bnd") (by walk_at "c ar") (by walk_at "c ar")
  k_with "binaryOp Pow int int" =>
    ((with_reducible refine pow_int_small ?z405zkb1 ?z405zkb2 ?z405zkb3 ?_); (case z405zkb1 => walk_at "c ar"); (case z405zkb2 => walk_at "c ar"); (case z405zkb3 => decide))
  k_with "call ref" =>
    (k_here; (with_reducible show wpAny _ _ (call (Prod.fst _) (_ ++ _)) _ _ _); dsimp only [List.nil_append, List.cons_append])
  k_with "subscriptTail" =>
    (k_here; (with_reducible show wpAny _ _ (subscriptTail _ _ (Value.ref _) (Value.int _ _)) _ _ _); k_dflt (first
    | (refine' item_tupleT ?z407zt ?z407za ?z407zb ?z407zc ?z407zd ?_; (case z407zt => exact News.isTup (by k_asm) (by k_mem)); (case z407za => decide); (case z407zb => decide); (case z407zc => exact rfl); (case z407zd => exact rfl); k_whole)
    | (refine' c_item ?z407zN ?z407zm ?z407za ?z407zb ?z407zc ?_ ?z407zz; (case z407zN => k_asm); (case z407zm => k_mem); (case z407za => decide); (case z407zb => decide); (case z407zc => exact rfl); (case z407zz => with_unfolding_all rfl); k_whole)))
  k_with "subscriptTail Name Constant ref int" =>
    (k_here; (with_reducible show wpAny _ _ (subscriptTail _ _ (Value.ref _) (Value.int _ _)) _ _ _); k_dflt (first
    | (refine' item_tupleT ?z408zt ?z408za ?z408zb ?z408zc ?z408zd ?_; (case z408zt => exact News.isTup (by k_asm) (by k_mem)); (case z408za => decide); (case z408zb => decide); (case z408zc => exact rfl); (case z408zd => exact rfl); k_whole)
    | (refine' c_item ?z408zN ?z408zm ?z408za ?z408zb ?z408zc ?_ ?z408zz; (case z408zN => k_asm); (case z408zm => k_mem); (case z408za => decide); (case z408zb => decide); (case z408zc => exact rfl); (case z408zz => with_unfolding_all rfl); k_whole)))
  trivial
section
variable {w : World} {mean : ExcName → Option Value} {mg mb : PySem.Str → Option Value} {dp un : Nat} {gd : Option (List Code)} {cn : PySem.Str} {cs : Scope} {a₀ : Addr} {ccd : Value} {cl : List (PySem.Str × Addr)} {outer : List Env}
  {A₀ : Around} {base h₀ : Heap} {L : Addr} {m : PySem.Str → Option Value} {s : Shared} {news : List (Addr × Obj)} {Q E : Value → Shared → Prop}
theorem lines_C15_2 : True := by
  k_with "getMethod ref" =>
    (k_here; (with_reducible show wpAny _ _ (getMethod (Value.ref _) (PySem.Str.ofString "get") _) _ _ _); k_dflt (refine kdg_method (knd := PySem.strKind _ _) (by k_asm) (by k_mem) (DictIs.is (by assumption)) ?_))
  k_with "call builtin:dict.get" =>
    (k_here; k_dflt (first
    | refine kdg_get1 (knd := PySem.strKind _ _) (by k_asm) (by k_mem) (DictIs.is (by assumption)) (DictIs.lo (by assumption)) (strKind_is _ _ _ _) _ (by assumption) ?_
    | refine kdg_get1 (knd := PySem.strKind _ _) (by k_asm) (by k_mem) (DictIs.is (by assumption)) (DictIs.lo (by assumption)) (strKind_is _ _ _ _) (some _) (by rfl) ?_
    | refine kdg_get1 (knd := PySem.strKind _ _) (by k_asm) (by k_mem) (DictIs.is (by assumption)) (DictIs.lo (by assumption)) (strKind_is _ _ _ _) none (by rfl) ?_); (try dsimp only [Option.getD]))
  k_with "call ref" =>
    (k_here; (with_reducible show wpAny _ _ (call (Value.ref 463) [Value.ref _, Value.none]) _ _ _); k_dflt (refine' c_fetch_none ?z411zcB ?z411zcF ?z411zcX ?z411zcN ?z411zcT ?z411zcK ?z411zcD ?z411zcU  ?_; (case z411zcB => k_asm); (case z411zcF => k_asm); (case z411zcX => k_asm); (case z411zcN => k_asm); (case z411zcT => k_asm); (case z411zcK => first | exact rfl | assumption); (case z411zcD => walk_at "c dp"); (case z411zcU => walk_at "c un"); intro h' tk' F' N'; (try k_sweep); (try dsimp only); (try k_fold)))
  k_with "call ref" =>
    (k_here; (with_reducible show wpAny _ _ (call (Value.ref 463) [Value.ref _, Value.int _ _]) _ _ _); k_dflt (refine' c_fetch_int ?z412zcB ?z412zcF ?z412zcX ?z412zcN ?z412zcT ?z412zcK ?z412zcD ?z412zcU  ?_; (case z412zcB => k_asm); (case z412zcF => k_asm); (case z412zcX => k_asm); (case z412zcN => k_asm); (case z412zcT => k_asm); (case z412zcK => first | exact rfl | assumption); (case z412zcD => walk_at "c dp"); (case z412zcU => walk_at "c un"); intro h' tk' F' N'; (try k_sweep); (try dsimp only); (try k_fold)))
  k_with "call ref" =>
    (k_here; (with_reducible show wpAny _ _ (call (Value.ref 463) [Value.ref _, Value.ref _]) _ _ _); k_dflt (first | (refine' c_fetch_list ?z413zcB ?z413zcF ?z413zcX ?z413zcN ?z413zcT ?z413zcK ?z413zcD ?z413zcU ?z413zp0 ?_; (case z413zcB => k_asm); (case z413zcF => k_asm); (case z413zcX => k_asm); (case z413zcN => k_asm); (case z413zcT => k_asm); (case z413zcK => first | exact rfl | assumption); (case z413zcD => walk_at "c dp"); (case z413zcU => walk_at "c un"); (case z413zp0 => k_mem)) | (refine' c_fetch_stream ?z413zcB ?z413zcF ?z413zcX ?z413zcN ?z413zcT ?z413zcK ?z413zcD ?z413zcU ?z413zp0 ?z413zp1 ?_; (case z413zcB => k_asm); (case z413zcF => k_asm); (case z413zcX => k_asm); (case z413zcN => k_asm); (case z413zcT => k_asm); (case z413zcK => first | exact rfl | assumption); (case z413zcD => walk_at "c dp"); (case z413zcU => walk_at "c un"); (case z413zp0 => k_mem); (case z413zp1 => k_mem)) | (refine' c_fetch_dict ?z413zcB ?z413zcF ?z413zcX ?z413zcN ?z413zcT ?z413zcK ?z413zcD ?z413zcU ?z413zp0 ?z413zp1 ?_; (case z413zcB => k_asm); (case z413zcF => k_asm); (case z413zcX => k_asm); (case z413zcN => k_asm); (case z413zcT => k_asm); (case z413zcK => first | exact rfl | assumption); (case z413zcD => walk_at "c dp"); (case z413zcU => walk_at "c un"); (case z413zp0 => k_mem); (case z413zp1 => assumption))); intro h' tk' F' N'; (try k_sweep); (try dsimp only); (try k_fold))
  trivial

theorem c_get_none (B : Below A₀ base outer h₀) (F : Fr h₀ L s.heap m) (X : (Mine.hd0.heap_1 w.params).In h₀) (N : News h₀ L s.heap news) (T : Top VW LS mean mg mb h₀) (hk : cs.kind = .function) (hd : dp + 14 < recursionLimit) (hu : un + 140 < cLine) {sh dsh tb tr : Addr} {ks1 ks2 : Tok} (hsh : (sh, instObj 473 dsh) ∈ news) (hdsh : (dsh, shelfObj w tb tr ks1 ks2) ∈ news) {d : Addr} {od : Obj} {kvs : List (PySem.Str × Value)} (hmd : (d, od) ∈ news) (hdd : DictIs w d od kvs)  {key : PySem.Str} {kt : Tok} (hv : valueAt kvs key = none) (ret : ∀ h' tk', Fr h₀ L h' m → News h₀ L h' news → Q (.none) { s with heap := h', toks := tk' }) : wpAny (model PySem.Challenge.rw_qz0079_01.row.prog w) (ktrTop dp un gd cn cs L a₀ ccd cl outer) (call (.ref 470) [.ref sh, .ref d, .str key kt]) Q E s := by
  revert X; k_fill; intro X
  w_on
  refine wpAny_call ?_
  k_dflt ktr_enter
  k_steps
  rename Fr h₀ L _ m => kF
  rename News h₀ L _ _ => kN
  exact ret _ _ kF (cb_drop kN (by walk_at "c sub"))

theorem c_get_list (B : Below A₀ base outer h₀) (F : Fr h₀ L s.heap m) (X : (Mine.hd0.heap_1 w.params).In h₀) (N : News h₀ L s.heap news) (T : Top VW LS mean mg mb h₀) (hk : cs.kind = .function) (hd : dp + 14 < recursionLimit) (hu : un + 140 < cLine) {sh dsh tb tr : Addr} {ks1 ks2 : Tok} (hsh : (sh, instObj 473 dsh) ∈ news) (hdsh : (dsh, shelfObj w tb tr ks1 ks2) ∈ news) {d : Addr} {od : Obj} {kvs : List (PySem.Str × Value)} (hmd : (d, od) ∈ news) (hdd : DictIs w d od kvs) {l : Addr} {its : Array Value} {n9 : Nat} (hl : (l, listOf its n9) ∈ news) {key : PySem.Str} {kt : Tok} (hv : valueAt kvs key = some (.ref l)) (ret : ∀ h' tk', Fr h₀ L h' m → News h₀ L h' news → Q (.ref l) { s with heap := h', toks := tk' }) : wpAny (model PySem.Challenge.rw_qz0079_01.row.prog w) (ktrTop dp un gd cn cs L a₀ ccd cl outer) (call (.ref 470) [.ref sh, .ref d, .str key kt]) Q E s := by
  revert X; k_fill; intro X
  w_on
  refine wpAny_call ?_
  k_dflt ktr_enter
  k_steps
  rename Fr h₀ L _ m => kF
  rename News h₀ L _ _ => kN
  exact ret _ _ kF (cb_drop kN (by walk_at "c sub"))

theorem c_get_stream (B : Below A₀ base outer h₀) (F : Fr h₀ L s.heap m) (X : (Mine.hd0.heap_1 w.params).In h₀) (N : News h₀ L s.heap news) (T : Top VW LS mean mg mb h₀) (hk : cs.kind = .function) (hd : dp + 14 < recursionLimit) (hu : un + 140 < cLine) {sh dsh tb tr : Addr} {ks1 ks2 : Tok} (hsh : (sh, instObj 473 dsh) ∈ news) (hdsh : (dsh, shelfObj w tb tr ks1 ks2) ∈ news) {d : Addr} {od : Obj} {kvs : List (PySem.Str × Value)} (hmd : (d, od) ∈ news) (hdd : DictIs w d od kvs) {x dx hh : Addr} {oc : Value} {k1 k2 : Tok} (hx : (x, instObj 395 dx) ∈ news) (hdx : (dx, streamObj w hh oc k1 k2) ∈ news) {key : PySem.Str} {kt : Tok} (hv : valueAt kvs key = some (.ref x)) (ret : ∀ h' tk', Fr h₀ L h' m → News h₀ L h' news → Q (.ref x) { s with heap := h', toks := tk' }) : wpAny (model PySem.Challenge.rw_qz0079_01.row.prog w) (ktrTop dp un gd cn cs L a₀ ccd cl outer) (call (.ref 470) [.ref sh, .ref d, .str key kt]) Q E s := by
  revert X; k_fill; intro X
  w_on
  refine wpAny_call ?_
  k_dflt ktr_enter
  k_steps
  rename Fr h₀ L _ m => kF
  rename News h₀ L _ _ => kN
  exact ret _ _ kF (cb_drop kN (by walk_at "c sub"))

theorem c_get_dict (B : Below A₀ base outer h₀) (F : Fr h₀ L s.heap m) (X : (Mine.hd0.heap_1 w.params).In h₀) (N : News h₀ L s.heap news) (T : Top VW LS mean mg mb h₀) (hk : cs.kind = .function) (hd : dp + 14 < recursionLimit) (hu : un + 140 < cLine) {sh dsh tb tr : Addr} {ks1 ks2 : Tok} (hsh : (sh, instObj 473 dsh) ∈ news) (hdsh : (dsh, shelfObj w tb tr ks1 ks2) ∈ news) {d : Addr} {od : Obj} {kvs : List (PySem.Str × Value)} (hmd : (d, od) ∈ news) (hdd : DictIs w d od kvs) {e : Addr} {oe : Obj} {kve : List (PySem.Str × Value)} (hme : (e, oe) ∈ news) (hde : DictIs w e oe kve) {key : PySem.Str} {kt : Tok} (hv : valueAt kvs key = some (.ref e)) (ret : ∀ h' tk', Fr h₀ L h' m → News h₀ L h' news → Q (.ref e) { s with heap := h', toks := tk' }) : wpAny (model PySem.Challenge.rw_qz0079_01.row.prog w) (ktrTop dp un gd cn cs L a₀ ccd cl outer) (call (.ref 470) [.ref sh, .ref d, .str key kt]) Q E s := by
  revert X; k_fill; intro X
  w_on
  refine wpAny_call ?_
  k_dflt ktr_enter
  k_steps
  rename Fr h₀ L _ m => kF
  rename News h₀ L _ _ => kN
  exact ret _ _ kF (cb_drop kN (by walk_at "c sub"))

theorem c_isnum (B : Below A₀ base outer h₀) (F : Fr h₀ L s.heap m) (X : (Mine.hd0.heap_1 w.params).In h₀) (N : News h₀ L s.heap news) (T : Top VW LS mean mg mb h₀) (hk : cs.kind = .function) (hd : dp + 12 < recursionLimit) (hu : un + 120 < cLine) {k : Int} {t : Tok} (ret : ∀ h' tk', Fr h₀ L h' m → News h₀ L h' news → Q (.bool true) { s with heap := h', toks := tk' }) : wpAny (model PySem.Challenge.rw_qz0079_01.row.prog w) (ktrTop dp un gd cn cs L a₀ ccd cl outer) (call (.ref 441) [.int k t]) Q E s := by
  revert X; k_fill; intro X
  w_on
  refine wpAny_call ?_
  k_dflt ktr_enter
  k_steps
  rename Fr h₀ L _ m => kF
  rename News h₀ L _ _ => kN
  exact ret _ _ kF (cb_drop kN (by walk_at "c sub"))

end
end PartC15
section PartC16
theorem lines_C16_1 : True := by
  k_with_none
  k_with "c mem" =>
    first | ((with_reducible refine' mem_here ?z414zh9); (case z414zh9 => exact rfl)) | ((with_reducible refine' mem_nth 1 ?z414zh9); (case z414zh9 => exact rfl)) | ((with_reducible refine' mem_nth 2 ?z414zh9); (case z414zh9 => exact rfl)) | ((with_reducible refine' mem_nth 3 ?z414zh9); (case z414zh9 => exact rfl)) | ((with_reducible refine' mem_nth 4 ?z414zh9); (case z414zh9 => exact rfl)) | ((with_reducible refine' mem_nth 5 ?z414zh9); (case z414zh9 => exact rfl)) | ((with_reducible refine' mem_nth 6 ?z414zh9); (case z414zh9 => exact rfl)) | ((with_reducible refine' mem_nth 7 ?z414zh9); (case z414zh9 => exact rfl)) | ((with_reducible refine' mem_nth 8 ?z414zh9); (case z414zh9 => exact rfl)) | ((with_reducible refine' mem_nth 9 ?z414zh9); (case z414zh9 => exact rfl)) | ((with_reducible refine' mem_skip ?_); walk_at "c mem") | (with_reducible exact List.mem_append_left _ (by with_reducible assumption)) | ktr_member | ((with_reducible refine' List.mem_cons_of_mem _ ?_); walk_at "c mem") | ((with_reducible refine' List.mem_append_right _ ?_); walk_at "c mem")
  k_with "c room" =>
    with_reducible first | assumption | exact room1 (by assumption) rfl | exact room2 (by assumption) rfl | exact room3 (by assumption) rfl | exact room4 (by assumption) rfl
  k_with "c le" =>
    with_reducible first | assumption | exact Nat.le_trans (by assumption) (by decide)
  k_with "c lt1" =>
    with_reducible first | assumption | exact cj0 | exact cj1 | exact cj2 | exact cj3 | exact cj4 | exact cj5 | exact cj6 | exact cj7 | exact cj8 | exact cj9 | exact cj10 | exact cj11 | exact cj12 | exact cj13 | exact cj14 | exact cj15 | exact cj16 | exact cj17 | exact cj18 | exact cj19 | exact cj20 | exact cj21 | exact cj22 | exact cj23 | exact And.right (by with_reducible assumption) | exact And.right (And.right (by with_reducible assumption)) | exact And.right (And.right (And.right (by with_reducible assumption))) | exact And.right (And.right (And.right (And.right (by with_reducible assumption))))
  k_with "c lt2" =>
    ((with_reducible refine' Nat.lt_trans ?z418za9 ?z418zb9); (case z418zb9 => with_reducible assumption); (case z418za9 => walk_at "c lt1"))
  k_with "c lt" =>
    first | walk_at "c lt1" | walk_at "c lt2"
  k_with "c up3" =>
    with_reducible first | exact abv3 (by assumption) | exact abv3_1 (by assumption) | exact abv3_2 (by assumption) | exact abv3_3 (by assumption) | exact abv3_4 (by assumption) | (refine' Abv3.tr ?z420za9 ?z420zb9; (case z420za9 => assumption); (case z420zb9 => walk_at "c up3"))
  k_with "c ne" =>
    first | with_reducible (first | assumption | exact And.left (by assumption) | exact Ne.symm (And.left (by assumption)) | exact And.left (And.right (by assumption)) | exact Ne.symm (And.left (And.right (by assumption))) | exact And.right (And.right (by assumption)) | exact Ne.symm (And.right (And.right (by assumption))) | exact neq_lt (by assumption) | exact neq_gt (by assumption) | exact nl0 | exact nr0 | exact nl1 | exact nr1 | exact nl2 | exact nr2 | exact nl3 | exact nr3 | exact nl4 | exact nr4 | exact nl5 | exact nr5 | exact nl6 | exact nr6 | exact nl7 | exact nr7 | exact nl8 | exact nr8 | exact nl9 | exact nr9 | exact nl10 | exact nr10 | exact nl11 | exact nr11 | exact nl12 | exact nr12 | exact nl13 | exact nr13 | exact nl14 | exact nr14 | exact nl15 | exact nr15 | exact nl16 | exact nr16 | exact nl17 | exact nr17 | exact nl18 | exact nr18 | exact nl19 | exact nr19 | exact nl20 | exact nr20 | exact nl21 | exact nr21 | exact nl22 | exact nr22 | exact nl23 | exact nr23) | ((with_reducible refine' neq_lt ?z421zz9); (case z421zz9 => walk_at "c lt2")) | ((with_reducible refine' neq_gt ?z421zz9); (case z421zz9 => walk_at "c lt2")) | ((try dsimp only); omega)
  k_with "c dp" =>
    ((try simp only [depth_under_make, depth_under_kw, depth_in1, depth_deeper, depth_caller]); (try dsimp only [ktrTop]); first | walk_at "c room" | omega | decide)
  k_with "c un" =>
    ((try simp only [units_make, units_in1, units_deeper, Around.mark_units, units_caller]); (try dsimp only [ktrTop]); first | walk_at "c room" | omega | decide)
  k_with "c sub" =>
    first | (refine List.forall_mem_cons.mpr ⟨?z424za, ?z424zb⟩; (case z424za => walk_at "c mem"); (case z424zb => walk_at "c sub")) | exact List.forall_mem_nil _ | (intro p9 h9; (repeat (first | exact h9 | refine List.mem_cons_of_mem _ ?_ | refine List.mem_append_left _ ?_)))
  k_with "c bnd" =>
    with_reducible (first | assumption | exact Bnd.pow _ | (refine' Bnd.fdiv ?z425za; (case z425za => walk_at "c bnd")) | (exact Bnd.mul (by walk_at "c bnd") (by walk_at "c bnd")) | (exact Bnd.add1 (by walk_at "c bnd") (by walk_at "c bnd")) | (exact Bnd.sub1 (by walk_at "c bnd") (by walk_at "c bnd")) | (exact Bnd.add (by walk_at "c bnd") (by walk_at "c bnd")) | (exact Bnd.sub (by walk_at "c bnd") (by walk_at "c bnd")))
  k_with "c ar" =>
    first | assumption | decide | omega | (split <;> omega)
  k_with "c mul" =>
    exact mulOk_bnd (by walk_at "c bnd") (by walk_at "c bnd") (by walk_at "c ar") (by walk_at "c ar")
  k_with "binaryOp Pow int int" =>
    ((with_reducible refine pow_int_small ?z428zkb1 ?z428zkb2 ?z428zkb3 ?_); (case z428zkb1 => walk_at "c ar"); (case z428zkb2 => walk_at "c ar"); (case z428zkb3 => decide))
  k_with "call ref" =>
    (k_here; (with_reducible show wpAny _ _ (call (Prod.fst _) (_ ++ _)) _ _ _); dsimp only [List.nil_append, List.cons_append])
  k_with "subscriptTail" =>
    (k_here; (with_reducible show wpAny _ _ (subscriptTail _ _ (Value.ref _) (Value.int _ _)) _ _ _); k_dflt (first
    | (refine' item_tupleT ?z430zt ?z430za ?z430zb ?z430zc ?z430zd ?_; (case z430zt => exact News.isTup (by k_asm) (by k_mem)); (case z430za => decide); (case z430zb => decide); (case z430zc => exact rfl); (case z430zd => exact rfl); k_whole)
    | (refine' c_item ?z430zN ?z430zm ?z430za ?z430zb ?z430zc ?_ ?z430zz; (case z430zN => k_asm); (case z430zm => k_mem); (case z430za => decide); (case z430zb => decide); (case z430zc => exact rfl); (case z430zz => with_unfolding_all rfl); k_whole)))
  k_with "subscriptTail Name Constant ref int" =>
    (k_here; (with_reducible show wpAny _ _ (subscriptTail _ _ (Value.ref _) (Value.int _ _)) _ _ _); k_dflt (first
    | (refine' item_tupleT ?z431zt ?z431za ?z431zb ?z431zc ?z431zd ?_; (case z431zt => exact News.isTup (by k_asm) (by k_mem)); (case z431za => decide); (case z431zb => decide); (case z431zc => exact rfl); (case z431zd => exact rfl); k_whole)
    | (refine' c_item ?z431zN ?z431zm ?z431za ?z431zb ?z431zc ?_ ?z431zz; (case z431zN => k_asm); (case z431zm => k_mem); (case z431za => decide); (case z431zb => decide); (case z431zc => exact rfl); (case z431zz => with_unfolding_all rfl); k_whole)))
  trivial
section
variable {w : World} {mean : ExcName → Option Value} {mg mb : PySem.Str → Option Value} {dp un : Nat} {gd : Option (List Code)} {cn : PySem.Str} {cs : Scope} {a₀ : Addr} {ccd : Value} {cl : List (PySem.Str × Addr)} {outer : List Env}
  {A₀ : Around} {base h₀ : Heap} {L : Addr} {m : PySem.Str → Option Value} {s : Shared} {news : List (Addr × Obj)} {Q E : Value → Shared → Prop}
theorem lines_C16_2 : True := by
  k_with "call ref" =>
    (k_here; (with_reducible show wpAny _ _ (call (Value.ref 463) [Value.ref _, Value.none]) _ _ _); k_dflt (refine' c_fetch_none ?z432zcB ?z432zcF ?z432zcX ?z432zcN ?z432zcT ?z432zcK ?z432zcD ?z432zcU  ?_; (case z432zcB => k_asm); (case z432zcF => k_asm); (case z432zcX => k_asm); (case z432zcN => k_asm); (case z432zcT => k_asm); (case z432zcK => first | exact rfl | assumption); (case z432zcD => walk_at "c dp"); (case z432zcU => walk_at "c un"); intro h' tk' F' N'; (try k_sweep); (try dsimp only); (try k_fold)))
  k_with "call ref" =>
    (k_here; (with_reducible show wpAny _ _ (call (Value.ref 463) [Value.ref _, Value.int _ _]) _ _ _); k_dflt (refine' c_fetch_int ?z433zcB ?z433zcF ?z433zcX ?z433zcN ?z433zcT ?z433zcK ?z433zcD ?z433zcU  ?_; (case z433zcB => k_asm); (case z433zcF => k_asm); (case z433zcX => k_asm); (case z433zcN => k_asm); (case z433zcT => k_asm); (case z433zcK => first | exact rfl | assumption); (case z433zcD => walk_at "c dp"); (case z433zcU => walk_at "c un"); intro h' tk' F' N'; (try k_sweep); (try dsimp only); (try k_fold)))
  k_with "call ref" =>
    (k_here; (with_reducible show wpAny _ _ (call (Value.ref 463) [Value.ref _, Value.ref _]) _ _ _); k_dflt (first | (refine' c_fetch_list ?z434zcB ?z434zcF ?z434zcX ?z434zcN ?z434zcT ?z434zcK ?z434zcD ?z434zcU ?z434zp0 ?_; (case z434zcB => k_asm); (case z434zcF => k_asm); (case z434zcX => k_asm); (case z434zcN => k_asm); (case z434zcT => k_asm); (case z434zcK => first | exact rfl | assumption); (case z434zcD => walk_at "c dp"); (case z434zcU => walk_at "c un"); (case z434zp0 => k_mem)) | (refine' c_fetch_stream ?z434zcB ?z434zcF ?z434zcX ?z434zcN ?z434zcT ?z434zcK ?z434zcD ?z434zcU ?z434zp0 ?z434zp1 ?_; (case z434zcB => k_asm); (case z434zcF => k_asm); (case z434zcX => k_asm); (case z434zcN => k_asm); (case z434zcT => k_asm); (case z434zcK => first | exact rfl | assumption); (case z434zcD => walk_at "c dp"); (case z434zcU => walk_at "c un"); (case z434zp0 => k_mem); (case z434zp1 => k_mem)) | (refine' c_fetch_dict ?z434zcB ?z434zcF ?z434zcX ?z434zcN ?z434zcT ?z434zcK ?z434zcD ?z434zcU ?z434zp0 ?z434zp1 ?_; (case z434zcB => k_asm); (case z434zcF => k_asm); (case z434zcX => k_asm); (case z434zcN => k_asm); (case z434zcT => k_asm); (case z434zcK => first | exact rfl | assumption); (case z434zcD => walk_at "c dp"); (case z434zcU => walk_at "c un"); (case z434zp0 => k_mem); (case z434zp1 => assumption))); intro h' tk' F' N'; (try k_sweep); (try dsimp only); (try k_fold))
  k_with "call ref" =>
    (k_here; (with_reducible show wpAny _ _ (call (Value.ref 187) [Value.int _ _]) _ _ _); k_dflt (refine' c_of_int ?z435zcB ?z435zcF ?z435zcX ?z435zcN ?z435zcT ?z435zcK ?z435zcD ?z435zcU ?z435zp0 ?_; (case z435zcB => k_asm); (case z435zcF => k_asm); (case z435zcX => k_asm); (case z435zcN => k_asm); (case z435zcT => k_asm); (case z435zcK => first | exact rfl | assumption); (case z435zcD => walk_at "c dp"); (case z435zcU => walk_at "c un"); (case z435zp0 => walk_at "c bnd"); intro x' d' q1' q2' q3' q4' h' tk' F' N' l1 l2 hq'; (try simp only [AllLt, and_true] at l1); (try k_lt2 l2); (try k_sweep); (try dsimp only); (try k_fold)))
  k_with "call ref" =>
    (k_here; (with_reducible show wpAny _ _ (call (Value.ref 222) [Value.ref _]) _ _ _); k_dflt (refine' c_least2 ?z436zcB ?z436zcF ?z436zcX ?z436zcN ?z436zcT ?z436zcK ?z436zcD ?z436zcU ?z436zp0 ?z436zp1 ?z436zp2 ?z436zp3 ?z436zp4 ?z436zp5 ?z436zp6 ?z436zp7 ?_; (case z436zcB => k_asm); (case z436zcF => k_asm); (case z436zcX => k_asm); (case z436zcN => k_asm); (case z436zcT => k_asm); (case z436zcK => first | exact rfl | assumption); (case z436zcD => walk_at "c dp"); (case z436zcU => walk_at "c un"); (case z436zp6 => k_mem); (case z436zp0 => k_mem); (case z436zp1 => k_mem); (case z436zp2 => with_reducible assumption); (case z436zp3 => k_mem); (case z436zp4 => k_mem); (case z436zp5 => with_reducible assumption); (case z436zp7 => first | walk_at "c le" | decide | omega); intro x' d' q1' q2' q3' q4' qq' h' tk' F' N' hq' eq'; subst eq'; (try k_sweep); (try dsimp only); (try k_fold)))
  k_with "call ref" =>
    (k_here; (with_reducible show wpAny _ _ (call (Value.ref 229) [Value.ref _]) _ _ _); k_dflt (refine' c_great2 ?z437zcB ?z437zcF ?z437zcX ?z437zcN ?z437zcT ?z437zcK ?z437zcD ?z437zcU ?z437zp0 ?z437zp1 ?z437zp2 ?z437zp3 ?z437zp4 ?z437zp5 ?z437zp6 ?z437zp7 ?_; (case z437zcB => k_asm); (case z437zcF => k_asm); (case z437zcX => k_asm); (case z437zcN => k_asm); (case z437zcT => k_asm); (case z437zcK => first | exact rfl | assumption); (case z437zcD => walk_at "c dp"); (case z437zcU => walk_at "c un"); (case z437zp6 => k_mem); (case z437zp0 => k_mem); (case z437zp1 => k_mem); (case z437zp2 => with_reducible assumption); (case z437zp3 => k_mem); (case z437zp4 => k_mem); (case z437zp5 => with_reducible assumption); (case z437zp7 => first | walk_at "c le" | decide | omega); intro x' d' q1' q2' q3' q4' qq' h' tk' F' N' hq' eq'; subst eq'; (try k_sweep); (try dsimp only); (try k_fold)))
  k_with "call ref" =>
    (k_here; (with_reducible show wpAny _ _ (call (Value.ref 441) [Value.int _ _]) _ _ _); k_dflt (refine' c_isnum ?z438zcB ?z438zcF ?z438zcX ?z438zcN ?z438zcT ?z438zcK ?z438zcD ?z438zcU  ?_; (case z438zcB => k_asm); (case z438zcF => k_asm); (case z438zcX => k_asm); (case z438zcN => k_asm); (case z438zcT => k_asm); (case z438zcK => first | exact rfl | assumption); (case z438zcD => walk_at "c dp"); (case z438zcU => walk_at "c un"); intro h' tk' F' N'; (try k_sweep); (try dsimp only); (try k_fold)))
  k_with "c kept" =>
    first | exact Kept.done (by with_reducible assumption) | (refine' Kept.skipI ?z439zk9; (case z439zk9 => walk_at "c kept")) | (refine' Kept.skipC ?z439zk9; (case z439zk9 => walk_at "c kept")) | (refine' Kept.skipD ?z439zk9; (case z439zk9 => walk_at "c kept")) | ((with_reducible refine' Kept.takeF ?z439zu9 ?z439zk9); (case z439zu9 => with_reducible assumption); (case z439zk9 => walk_at "c kept")) | ((with_reducible refine' Kept.take3 ?z439zu9 ?z439zk9); (case z439zu9 => walk_at "c up3"); (case z439zk9 => walk_at "c kept")) | (refine' Kept.take ?z439za ?z439zb ?z439zc ?z439zk9; (case z439za => first | walk_at "c ne" | omega); (case z439zb => first | walk_at "c ne" | omega); (case z439zc => first | walk_at "c ne" | omega); (case z439zk9 => walk_at "c kept"))
  k_with "CompEnd" =>
    (k_dflt (refine' kept_end ?z440zF ?z440zN ?z440zk ?z440zi ?z440zc ?z440zd ?z440zs ?_; (case z440zF => k_asm); (case z440zN => k_asm); (case z440zk => with_reducible walk_at "c kept"); (case z440zi => k_mem); (case z440zc => k_mem); (case z440zd => k_mem); (case z440zs => first | exact True.intro | (refine' src_list ?z440zm1; (case z440zm1 => k_mem)) | exact Or.inl (by assumption))))
  k_with "CompRest" =>
    (with_unfolding_all first
    | (refine LCg.CompRest.succ ?_; intro v' I' oI' C' oC' D' m' h' tk' E' hv' hC' hx' F' N' off' ne'; (first | lcg_open hv' | (obtain ⟨t9', hv9'⟩ := hv'; subst hv9')))
    | refine LCg.CompRest.zero ?_)
  k_with "FinE" =>
    ((unfold LCg.FinE); intro D' h' tk' F' N' o1'; clear o1'; (try simp only [List.nil_append, List.cons_append] at N'); (try dsimp only))
  k_with "CompRestP" =>
    (with_unfolding_all first
    | (refine LCp.CompRestP.succ ?_; intro v' hv'; lcg_open hv'; refine ⟨_, _, _, _, _, rfl, by k_mem, rfl, rfl, ?_⟩; intro I' oI' C' oC' D' m' h' tk' E' hC' hx' hy' F' N' off' ne')
    | refine LCp.CompRestP.zero ?_)
  k_with "FinA" =>
    ((unfold LCg.FinA); intro D' h' tk' F' N' o1'; clear o1'; (try simp only [List.nil_append, List.cons_append] at N'); (try dsimp only))
  k_with "CompSrc" =>
    (k_here; k_dflt (refine LCg.CompSrc.ledger (by rfl) (by k_asm) (by k_asm) (by k_mem) (by first | size_fits | exact Nat.le_of_ble_eq_true rfl) ?_; intro g'; lcg_lit))
  k_with "exec Assign cons ListComp" =>
    (k_here; lcg_look; k_dflt (refine LCg.Assign_ListComp_U (F₀ := by k_asm) (by rfl) (by with_unfolding_all rfl) (by rfl) (by decide) (by rfl) (by decide) (by rfl) (by rfl) (by rfl) ?_); k_dflt lcg_toSrc)
  k_with "subscriptTail Name Constant ref int" =>
    (k_here; (with_reducible show wpAny _ _ (subscriptTail _ _ (Value.ref _) (Value.int _ _)) _ _ _); k_dflt (refine' c_item ?z447zN ?z447zm ?z447za ?z447zb ?z447zc ?_ ?z447zz; (case z447zN => k_asm); (case z447zm => k_mem); (case z447za => decide); (case z447zb => decide); (case z447zc => exact rfl); (case z447zz => with_unfolding_all rfl); k_whole))
  trivial

theorem c_four (B : Below A₀ base outer h₀) (F : Fr h₀ L s.heap m) (X : (Mine.hd0.heap_1 w.params).In h₀) (N : News h₀ L s.heap news) (T : Top VW LS mean mg mb h₀) (hk : cs.kind = .function) (hd : dp + 40 < recursionLimit) (hu : un + 400 < cLine) {sh dsh tb tr : Addr} {ks1 ks2 : Tok} (hsh : (sh, instObj 473 dsh) ∈ news) (hdsh : (dsh, shelfObj w tb tr ks1 ks2) ∈ news) {l : Addr} {n9 : Nat} {a b c d : Int} {ta tb tc td : Tok} (hl : (l, listOf #[.int a ta, .int b tb, .int c tc, .int d td] n9) ∈ news) (ba : Bnd a 3) (bb : Bnd b 3) (bc : Bnd c 3) (bd : Bnd d 3) (hac : a ≤ c) (hbd : b ≤ d)
   (ret : ∀ t n8 r1 e1 i1 j1 k1 l1 r2 e2 i2 j2 k2 l2 r3 e3 i3 j3 k3 l3 r4 e4 i4 j4 k4 l4 h' tk', Fr h₀ L h' m → News h₀ L h' ((t, listOf #[.ref r1, .ref r2, .ref r3, .ref r4] n8) :: (r1, instObj 155 e1) :: (e1, decObj w ((a : Rat)) i1 j1 k1 l1) :: (r2, instObj 155 e2) :: (e2, decObj w ((b : Rat)) i2 j2 k2 l2) :: (r3, instObj 155 e3) :: (e3, decObj w ((c : Rat)) i3 j3 k3 l3) :: (r4, instObj 155 e4) :: (e4, decObj w ((d : Rat)) i4 j4 k4 l4) :: news) → DecQ (a : Rat) 3 → DecQ (b : Rat) 3 → DecQ (c : Rat) 3 → DecQ (d : Rat) 3 → Q (.ref t) { s with heap := h', toks := tk' }) : wpAny (model PySem.Challenge.rw_qz0079_01.row.prog w) (ktrTop dp un gd cn cs L a₀ ccd cl outer) (call (.ref 482) [.ref sh, .ref l]) Q E s := by
  revert X; k_fill; intro X
  w_on
  refine wpAny_call ?_
  k_dflt (refine' code_defC ?k1 ?k2 ?k3 ?k4 ?k5 ?kA ?kF ?kK ?k6 ?k7 ?k8 ?k9 ?kB ?kD ?_ ?c2 ?c3 ?c4; (case kA => exact rfl); (case kF => exact rfl); (case kK => assumption); (case k1 => k_asm); (case k2 => k_asm); (case k3 => k_asm); (case k4 => k_asm); (case k5 => k_asm); (case k6 => k_is); (case k7 => k_is); (case k8 => ktr_room); (case k9 => exact BindsTo.of_eq rfl); (case kB => exact rfl); (case kD => decide +kernel); (case c2 => exact rfl); (case c3 => exact rfl); (case c4 => exact rfl); k_whole; intro g' L' h' tk' cells' FG' F' N' Y' B' X' T' l1; (try k_lt l1); k_cells Y'; (try simp only [List.cons_append, List.nil_append] at N'); (try dsimp only); (try k_fold))
  k_steps
  have e1 : min (a : Rat) (c : Rat) = (a : Rat) := (by have h9 := Rat.intCast_le_intCast.mpr hac; grind)
  have e2 : min (b : Rat) (d : Rat) = (b : Rat) := (by have h9 := Rat.intCast_le_intCast.mpr hbd; grind)
  have e3 : max (a : Rat) (c : Rat) = (c : Rat) := (by have h9 := Rat.intCast_le_intCast.mpr hac; grind)
  have e4 : max (b : Rat) (d : Rat) = (d : Rat) := (by have h9 := Rat.intCast_le_intCast.mpr hbd; grind)
  rename Fr h₀ L _ m => kF
  rename News h₀ L _ _ => kN
  rw [e1, e2, e3, e4] at kN
  exact ret _ _ _ _ _ _ _ _ _ _ _ _ _ _ _ _ _ _ _ _ _ _ _ _ _ _ _ _ kF (cb_drop kN (by walk_at "c sub")) (by with_reducible assumption) (by with_reducible assumption) (by with_reducible assumption) (by with_reducible assumption)
end
end PartC16
section PartC17
theorem lines_C17_1 : True := by
  k_with_none
  k_with "c mem" =>
    first | ((with_reducible refine' mem_here ?z448zh9); (case z448zh9 => exact rfl)) | ((with_reducible refine' mem_nth 1 ?z448zh9); (case z448zh9 => exact rfl)) | ((with_reducible refine' mem_nth 2 ?z448zh9); (case z448zh9 => exact rfl)) | ((with_reducible refine' mem_nth 3 ?z448zh9); (case z448zh9 => exact rfl)) | ((with_reducible refine' mem_nth 4 ?z448zh9); (case z448zh9 => exact rfl)) | ((with_reducible refine' mem_nth 5 ?z448zh9); (case z448zh9 => exact rfl)) | ((with_reducible refine' mem_nth 6 ?z448zh9); (case z448zh9 => exact rfl)) | ((with_reducible refine' mem_nth 7 ?z448zh9); (case z448zh9 => exact rfl)) | ((with_reducible refine' mem_nth 8 ?z448zh9); (case z448zh9 => exact rfl)) | ((with_reducible refine' mem_nth 9 ?z448zh9); (case z448zh9 => exact rfl)) | ((with_reducible refine' mem_skip ?_); walk_at "c mem") | (with_reducible exact List.mem_append_left _ (by with_reducible assumption)) | ktr_member | ((with_reducible refine' List.mem_cons_of_mem _ ?_); walk_at "c mem") | ((with_reducible refine' List.mem_append_right _ ?_); walk_at "c mem")
  k_with "c room" =>
    with_reducible first | assumption | exact room1 (by assumption) rfl | exact room2 (by assumption) rfl | exact room3 (by assumption) rfl | exact room4 (by assumption) rfl
  k_with "c le" =>
    with_reducible first | assumption | exact Nat.le_trans (by assumption) (by decide)
  k_with "c lt1" =>
    with_reducible first | assumption | exact cj0 | exact cj1 | exact cj2 | exact cj3 | exact cj4 | exact cj5 | exact cj6 | exact cj7 | exact cj8 | exact cj9 | exact cj10 | exact cj11 | exact cj12 | exact cj13 | exact cj14 | exact cj15 | exact cj16 | exact cj17 | exact cj18 | exact cj19 | exact cj20 | exact cj21 | exact cj22 | exact cj23 | exact And.right (by with_reducible assumption) | exact And.right (And.right (by with_reducible assumption)) | exact And.right (And.right (And.right (by with_reducible assumption))) | exact And.right (And.right (And.right (And.right (by with_reducible assumption))))
  k_with "c lt2" =>
    ((with_reducible refine' Nat.lt_trans ?z452za9 ?z452zb9); (case z452zb9 => with_reducible assumption); (case z452za9 => walk_at "c lt1"))
  k_with "c lt" =>
    first | walk_at "c lt1" | walk_at "c lt2"
  k_with "c up3" =>
    with_reducible first | exact abv3 (by assumption) | exact abv3_1 (by assumption) | exact abv3_2 (by assumption) | exact abv3_3 (by assumption) | exact abv3_4 (by assumption) | (refine' Abv3.tr ?z454za9 ?z454zb9; (case z454za9 => assumption); (case z454zb9 => walk_at "c up3"))
  k_with "c ne" =>
    first | with_reducible (first | assumption | exact And.left (by assumption) | exact Ne.symm (And.left (by assumption)) | exact And.left (And.right (by assumption)) | exact Ne.symm (And.left (And.right (by assumption))) | exact And.right (And.right (by assumption)) | exact Ne.symm (And.right (And.right (by assumption))) | exact neq_lt (by assumption) | exact neq_gt (by assumption) | exact nl0 | exact nr0 | exact nl1 | exact nr1 | exact nl2 | exact nr2 | exact nl3 | exact nr3 | exact nl4 | exact nr4 | exact nl5 | exact nr5 | exact nl6 | exact nr6 | exact nl7 | exact nr7 | exact nl8 | exact nr8 | exact nl9 | exact nr9 | exact nl10 | exact nr10 | exact nl11 | exact nr11 | exact nl12 | exact nr12 | exact nl13 | exact nr13 | exact nl14 | exact nr14 | exact nl15 | exact nr15 | exact nl16 | exact nr16 | exact nl17 | exact nr17 | exact nl18 | exact nr18 | exact nl19 | exact nr19 | exact nl20 | exact nr20 | exact nl21 | exact nr21 | exact nl22 | exact nr22 | exact nl23 | exact nr23) | ((with_reducible refine' neq_lt ?z455zz9); (case z455zz9 => walk_at "c lt2")) | ((with_reducible refine' neq_gt ?z455zz9); (case z455zz9 => walk_at "c lt2")) | ((try dsimp only); omega)
  k_with "c dp" =>
    ((try simp only [depth_under_make, depth_under_kw, depth_in1, depth_deeper, depth_caller]); (try dsimp only [ktrTop]); first | walk_at "c room" | omega | decide)
  k_with "c un" =>
    ((try simp only [units_make, units_in1, units_deeper, Around.mark_units, units_caller]); (try dsimp only [ktrTop]); first | walk_at "c room" | omega | decide)
  k_with "c sub" =>
    first | (refine List.forall_mem_cons.mpr ⟨?z458za, ?z458zb⟩; (case z458za => walk_at "c mem"); (case z458zb => walk_at "c sub")) | exact List.forall_mem_nil _ | (intro p9 h9; (repeat (first | exact h9 | refine List.mem_cons_of_mem _ ?_ | refine List.mem_append_left _ ?_)))
  k_with "c bnd" =>
    with_reducible (first | assumption | exact Bnd.pow _ | (refine' Bnd.fdiv ?z459za; (case z459za => walk_at "c bnd")) | (exact Bnd.mul (by walk_at "c bnd") (by walk_at "c bnd")) | (exact Bnd.add1 (by walk_at "c bnd") (by walk_at "c bnd")) | (exact Bnd.sub1 (by walk_at "c bnd") (by walk_at "c bnd")) | (exact Bnd.add (by walk_at "c bnd") (by walk_at "c bnd")) | (exact Bnd.sub (by walk_at "c bnd") (by walk_at "c bnd")))
  k_with "c ar" =>
    first | assumption | decide | omega | (split <;> omega)
  k_with "c mul" =>
    exact mulOk_bnd (by walk_at "c bnd") (by walk_at "c bnd") (by walk_at "c ar") (by walk_at "c ar")
  k_with "binaryOp Pow int int" =>
    ((with_reducible refine pow_int_small ?z462zkb1 ?z462zkb2 ?z462zkb3 ?_); (case z462zkb1 => walk_at "c ar"); (case z462zkb2 => walk_at "c ar"); (case z462zkb3 => decide))
  k_with "call ref" =>
    (k_here; (with_reducible show wpAny _ _ (call (Prod.fst _) (_ ++ _)) _ _ _); dsimp only [List.nil_append, List.cons_append])
  k_with "subscriptTail" =>
    (k_here; (with_reducible show wpAny _ _ (subscriptTail _ _ (Value.ref _) (Value.int _ _)) _ _ _); k_dflt (first
    | (refine' item_tupleT ?z464zt ?z464za ?z464zb ?z464zc ?z464zd ?_; (case z464zt => exact News.isTup (by k_asm) (by k_mem)); (case z464za => decide); (case z464zb => decide); (case z464zc => exact rfl); (case z464zd => exact rfl); k_whole)
    | (refine' c_item ?z464zN ?z464zm ?z464za ?z464zb ?z464zc ?_ ?z464zz; (case z464zN => k_asm); (case z464zm => k_mem); (case z464za => decide); (case z464zb => decide); (case z464zc => exact rfl); (case z464zz => with_unfolding_all rfl); k_whole)))
  k_with "subscriptTail Name Constant ref int" =>
    (k_here; (with_reducible show wpAny _ _ (subscriptTail _ _ (Value.ref _) (Value.int _ _)) _ _ _); k_dflt (first
    | (refine' item_tupleT ?z465zt ?z465za ?z465zb ?z465zc ?z465zd ?_; (case z465zt => exact News.isTup (by k_asm) (by k_mem)); (case z465za => decide); (case z465zb => decide); (case z465zc => exact rfl); (case z465zd => exact rfl); k_whole)
    | (refine' c_item ?z465zN ?z465zm ?z465za ?z465zb ?z465zc ?_ ?z465zz; (case z465zN => k_asm); (case z465zm => k_mem); (case z465za => decide); (case z465zb => decide); (case z465zc => exact rfl); (case z465zz => with_unfolding_all rfl); k_whole)))
  trivial
section
variable {w : World} {mean : ExcName → Option Value} {mg mb : PySem.Str → Option Value} {dp un : Nat} {gd : Option (List Code)} {cn : PySem.Str} {cs : Scope} {a₀ : Addr} {ccd : Value} {cl : List (PySem.Str × Addr)} {outer : List Env}
  {A₀ : Around} {base h₀ : Heap} {L : Addr} {m : PySem.Str → Option Value} {s : Shared} {news : List (Addr × Obj)} {Q E : Value → Shared → Prop}
theorem lines_C17_2 : True := by
  k_with "getMethod ref" =>
    (k_here; (with_reducible show wpAny _ _ (getMethod (Value.ref _) (PySem.Str.ofString "get") _) _ _ _); k_dflt (refine kdg_method (knd := PySem.strKind _ _) (by k_asm) (by k_mem) (DictIs.is (by assumption)) ?_))
  k_with "call builtin:dict.get" =>
    (k_here; k_dflt (first
    | refine kdg_get1 (knd := PySem.strKind _ _) (by k_asm) (by k_mem) (DictIs.is (by assumption)) (DictIs.lo (by assumption)) (strKind_is _ _ _ _) _ (by assumption) ?_
    | refine kdg_get1 (knd := PySem.strKind _ _) (by k_asm) (by k_mem) (DictIs.is (by assumption)) (DictIs.lo (by assumption)) (strKind_is _ _ _ _) (some _) (by rfl) ?_
    | refine kdg_get1 (knd := PySem.strKind _ _) (by k_asm) (by k_mem) (DictIs.is (by assumption)) (DictIs.lo (by assumption)) (strKind_is _ _ _ _) none (by rfl) ?_); (try dsimp only [Option.getD]))
  k_with "call builtin:isinstance" =>
    (k_here; (with_reducible show wpAny _ _ (call _ [Value.ref _, _]) _ _ _); k_dflt (refine' kia_one kitx_dict ?z468zX ?z468zp ?z468zee ?z468znb ?_; (case z468zp => exact kitAt_N (by k_asm) (by k_mem) (DictIs.cls (by assumption))); (case z468zX => k_in); (case z468zee => kit_is); (case z468znb => kit_nb); k_whole; intro _))
  k_with "call ref" =>
    (k_here; (with_reducible show wpAny _ _ (call (Value.ref 470) [Value.ref _, Value.ref _, Value.str _ _]) _ _ _); k_dflt (first | (refine' c_get_none ?z469zcB ?z469zcF ?z469zcX ?z469zcN ?z469zcT ?z469zcK ?z469zcD ?z469zcU ?z469zp0 ?z469zp1 ?z469zp2 ?z469zp3 ?z469zp4 ?_; (case z469zcB => k_asm); (case z469zcF => k_asm); (case z469zcX => k_asm); (case z469zcN => k_asm); (case z469zcT => k_asm); (case z469zcK => first | exact rfl | assumption); (case z469zcD => walk_at "c dp"); (case z469zcU => walk_at "c un"); (case z469zp0 => k_mem); (case z469zp1 => k_mem); (case z469zp2 => k_mem); (case z469zp3 => assumption); (case z469zp4 => first | assumption | exact rfl)) | (refine' c_get_dict ?z469zcB ?z469zcF ?z469zcX ?z469zcN ?z469zcT ?z469zcK ?z469zcD ?z469zcU ?z469zp0 ?z469zp1 ?z469zp2 ?z469zp3 ?z469zp4 ?z469zp5 ?z469zp6 ?_; (case z469zcB => k_asm); (case z469zcF => k_asm); (case z469zcX => k_asm); (case z469zcN => k_asm); (case z469zcT => k_asm); (case z469zcK => first | exact rfl | assumption); (case z469zcD => walk_at "c dp"); (case z469zcU => walk_at "c un"); (case z469zp0 => k_mem); (case z469zp1 => k_mem); (case z469zp2 => k_mem); (case z469zp3 => assumption); (case z469zp6 => first | assumption | exact rfl); (case z469zp4 => k_mem); (case z469zp5 => assumption)) | (refine' c_get_stream ?z469zcB ?z469zcF ?z469zcX ?z469zcN ?z469zcT ?z469zcK ?z469zcD ?z469zcU ?z469zp0 ?z469zp1 ?z469zp2 ?z469zp3 ?z469zp4 ?z469zp5 ?z469zp6 ?_; (case z469zcB => k_asm); (case z469zcF => k_asm); (case z469zcX => k_asm); (case z469zcN => k_asm); (case z469zcT => k_asm); (case z469zcK => first | exact rfl | assumption); (case z469zcD => walk_at "c dp"); (case z469zcU => walk_at "c un"); (case z469zp0 => k_mem); (case z469zp1 => k_mem); (case z469zp2 => k_mem); (case z469zp3 => assumption); (case z469zp6 => first | assumption | exact rfl); (case z469zp4 => k_mem); (case z469zp5 => k_mem)) | (refine' c_get_list ?z469zcB ?z469zcF ?z469zcX ?z469zcN ?z469zcT ?z469zcK ?z469zcD ?z469zcU ?z469zp0 ?z469zp1 ?z469zp2 ?z469zp3 ?z469zp4 ?z469zp5 ?_; (case z469zcB => k_asm); (case z469zcF => k_asm); (case z469zcX => k_asm); (case z469zcN => k_asm); (case z469zcT => k_asm); (case z469zcK => first | exact rfl | assumption); (case z469zcD => walk_at "c dp"); (case z469zcU => walk_at "c un"); (case z469zp0 => k_mem); (case z469zp1 => k_mem); (case z469zp2 => k_mem); (case z469zp3 => assumption); (case z469zp5 => first | assumption | exact rfl); (case z469zp4 => k_mem))); intro h' tk' F' N'; (try k_sweep); (try dsimp only); (try k_fold))
  k_with "call ref" =>
    (k_here; (with_reducible show wpAny _ _ (call (Value.ref 482) [Value.ref _, Value.ref _]) _ _ _); k_dflt (refine' c_four ?z470zcB ?z470zcF ?z470zcX ?z470zcN ?z470zcT ?z470zcK ?z470zcD ?z470zcU ?z470zp0 ?z470zp1 ?z470zp2 ?z470zp3 ?z470zp4 ?z470zp5 ?z470zp6 ?z470zp7 ?z470zp8 ?_; (case z470zcB => k_asm); (case z470zcF => k_asm); (case z470zcX => k_asm); (case z470zcN => k_asm); (case z470zcT => k_asm); (case z470zcK => first | exact rfl | assumption); (case z470zcD => walk_at "c dp"); (case z470zcU => walk_at "c un"); (case z470zp0 => k_mem); (case z470zp1 => k_mem); (case z470zp2 => k_mem); (case z470zp3 => with_reducible assumption); (case z470zp4 => with_reducible assumption); (case z470zp5 => with_reducible assumption); (case z470zp6 => with_reducible assumption); (case z470zp7 => with_reducible assumption); (case z470zp8 => with_reducible assumption); intro t' n8' r1' e1' i1' j1' k1' l1' r2' e2' i2' j2' k2' l2' r3' e3' i3' j3' k3' l3' r4' e4' i4' j4' k4' l4' h' tk' F' N' hq1' hq2' hq3' hq4'; (try k_sweep); (try dsimp only); (try k_fold)))
  trivial

theorem c_rect (B : Below A₀ base outer h₀) (F : Fr h₀ L s.heap m) (X : (Mine.hd0.heap_1 w.params).In h₀) (N : News h₀ L s.heap news) (T : Top VW LS mean mg mb h₀) (hk : cs.kind = .function) (hd : dp + 45 < recursionLimit) (hu : un + 450 < cLine) {sh dsh tb tr : Addr} {ks1 ks2 : Tok} (hsh : (sh, instObj 473 dsh) ∈ news) (hdsh : (dsh, shelfObj w tb tr ks1 ks2) ∈ news) {e : Addr} {oe : Obj} {kvs : List (PySem.Str × Value)} (hme : (e, oe) ∈ news) (hde : DictIs w e oe kvs) {l : Addr} {n9 : Nat} {a b c d : Int} {ta tb tc td : Tok} (hl : (l, listOf #[.int a ta, .int b tb, .int c tc, .int d td] n9) ∈ news) (ba : Bnd a 3) (bb : Bnd b 3) (bc : Bnd c 3) (bd : Bnd d 3) (hac : a ≤ c) (hbd : b ≤ d) (hv : valueAt kvs (PySem.Str.ofString "Rect") = some (.ref l)) (ret : ∀ t r1 e1 i1 j1 k1 l1 r2 e2 i2 j2 k2 l2 r3 e3 i3 j3 k3 l3 r4 e4 i4 j4 k4 l4 h' tk', Fr h₀ L h' m → News h₀ L h' ((t, ({ cls := .type "tuple", data := .seq #[.ref r1, .ref r2, .ref r3, .ref r4] } : Obj)) :: (r1, instObj 155 e1) :: (e1, decObj w ((a : Rat)) i1 j1 k1 l1) :: (r2, instObj 155 e2) :: (e2, decObj w ((b : Rat)) i2 j2 k2 l2) :: (r3, instObj 155 e3) :: (e3, decObj w ((c : Rat)) i3 j3 k3 l3) :: (r4, instObj 155 e4) :: (e4, decObj w ((d : Rat)) i4 j4 k4 l4) :: news) → DecQ (a : Rat) 3 → DecQ (b : Rat) 3 → DecQ (c : Rat) 3 → DecQ (d : Rat) 3 → Q (.ref t) { s with heap := h', toks := tk' }) : wpAny (model PySem.Challenge.rw_qz0079_01.row.prog w) (ktrTop dp un gd cn cs L a₀ ccd cl outer) (call (.ref 489) [.ref sh, .ref e]) Q E s := by
  revert X; k_fill; intro X
  w_on
  refine wpAny_call ?_
  k_dflt ktr_enter
  k_steps
  rename Fr h₀ L _ m => kF
  rename News h₀ L _ _ => kN
  exact ret _ _ _ _ _ _ _ _ _ _ _ _ _ _ _ _ _ _ _ _ _ _ _ _ _ _ _ kF (cb_drop kN (by walk_at "c sub")) (by with_reducible assumption) (by with_reducible assumption) (by with_reducible assumption) (by with_reducible assumption)

theorem c_ap_none (B : Below A₀ base outer h₀) (F : Fr h₀ L s.heap m) (X : (Mine.hd0.heap_1 w.params).In h₀) (N : News h₀ L s.heap news) (T : Top VW LS mean mg mb h₀) (hk : cs.kind = .function) (hd : dp + 20 < recursionLimit) (hu : un + 200 < cLine) {sh dsh tb tr : Addr} {ks1 ks2 : Tok} (hsh : (sh, instObj 473 dsh) ∈ news) (hdsh : (dsh, shelfObj w tb tr ks1 ks2) ∈ news) {d : Addr} {od : Obj} {kvs : List (PySem.Str × Value)} (hmd : (d, od) ∈ news) (hdd : DictIs w d od kvs)  {way : PySem.Str} {tw : Tok} (hv : valueAt kvs (PySem.Str.ofString "AP") = none) (ret : ∀ h' tk', Fr h₀ L h' m → News h₀ L h' news → Q (.none) { s with heap := h', toks := tk' }) : wpAny (model PySem.Challenge.rw_qz0079_01.row.prog w) (ktrTop dp un gd cn cs L a₀ ccd cl outer) (call (.ref 497) [.ref sh, .ref d, .str way tw]) Q E s := by
  revert X; k_fill; intro X
  w_on
  refine wpAny_call ?_
  k_dflt (refine' code_def ?k1 ?k2 ?k3 ?k4 ?k5 ?kA ?kF ?kK ?k6 ?k7 ?k8 ?k9 ?kB ?_ ?c2 ?c3 ?c4 ?c5; (case kA => exact rfl); (case kF => exact rfl); (case kK => assumption); (case k1 => k_asm); (case k2 => k_asm); (case k3 => k_asm); (case k4 => k_asm); (case k5 => k_asm); (case k6 => k_is); (case k7 => k_is); (case k8 => ktr_room); (case k9 => exact binds_K (by k_in) rfl (by k_is) rfl rfl rfl); (case c5 => decide); (case kB => exact locs rfl); (case c2 => exact rfl); (case c3 => exact rfl); (case c4 => exact rfl); k_whole; intro g' L' h' FG' F' N' B' X' T'; (try dsimp only); (try k_fold))
  k_steps
  rename Fr h₀ L _ m => kF
  rename News h₀ L _ _ => kN
  exact ret _ _ kF (cb_drop kN (by walk_at "c sub"))

theorem c_ap_this (B : Below A₀ base outer h₀) (F : Fr h₀ L s.heap m) (X : (Mine.hd0.heap_1 w.params).In h₀) (N : News h₀ L s.heap news) (T : Top VW LS mean mg mb h₀) (hk : cs.kind = .function) (hd : dp + 20 < recursionLimit) (hu : un + 200 < cLine) {sh dsh tb tr : Addr} {ks1 ks2 : Tok} (hsh : (sh, instObj 473 dsh) ∈ news) (hdsh : (dsh, shelfObj w tb tr ks1 ks2) ∈ news) {d : Addr} {od : Obj} {kvs : List (PySem.Str × Value)} (hmd : (d, od) ∈ news) (hdd : DictIs w d od kvs) {e : Addr} {oe : Obj} {kve : List (PySem.Str × Value)} (hme : (e, oe) ∈ news) (hde : DictIs w e oe kve) {x dx hh : Addr} {oc : Value} {k1 k2 : Tok} (hx : (x, instObj 395 dx) ∈ news) (hdx : (dx, streamObj w hh oc k1 k2) ∈ news) {way : PySem.Str} {tw : Tok} (hv : valueAt kvs (PySem.Str.ofString "AP") = some (.ref e)) (hw : valueAt kve way = some (.ref x)) (ret : ∀ h' tk', Fr h₀ L h' m → News h₀ L h' news → Q (.ref x) { s with heap := h', toks := tk' }) : wpAny (model PySem.Challenge.rw_qz0079_01.row.prog w) (ktrTop dp un gd cn cs L a₀ ccd cl outer) (call (.ref 497) [.ref sh, .ref d, .str way tw]) Q E s := by
  revert X; k_fill; intro X
  w_on
  refine wpAny_call ?_
  k_dflt (refine' code_def ?k1 ?k2 ?k3 ?k4 ?k5 ?kA ?kF ?kK ?k6 ?k7 ?k8 ?k9 ?kB ?_ ?c2 ?c3 ?c4 ?c5; (case kA => exact rfl); (case kF => exact rfl); (case kK => assumption); (case k1 => k_asm); (case k2 => k_asm); (case k3 => k_asm); (case k4 => k_asm); (case k5 => k_asm); (case k6 => k_is); (case k7 => k_is); (case k8 => ktr_room); (case k9 => exact binds_K (by k_in) rfl (by k_is) rfl rfl rfl); (case c5 => decide); (case kB => exact locs rfl); (case c2 => exact rfl); (case c3 => exact rfl); (case c4 => exact rfl); k_whole; intro g' L' h' FG' F' N' B' X' T'; (try dsimp only); (try k_fold))
  k_steps
  rename Fr h₀ L _ m => kF
  rename News h₀ L _ _ => kN
  exact ret _ _ kF (cb_drop kN (by walk_at "c sub"))

theorem c_ap_back (B : Below A₀ base outer h₀) (F : Fr h₀ L s.heap m) (X : (Mine.hd0.heap_1 w.params).In h₀) (N : News h₀ L s.heap news) (T : Top VW LS mean mg mb h₀) (hk : cs.kind = .function) (hd : dp + 20 < recursionLimit) (hu : un + 200 < cLine) {sh dsh tb tr : Addr} {ks1 ks2 : Tok} (hsh : (sh, instObj 473 dsh) ∈ news) (hdsh : (dsh, shelfObj w tb tr ks1 ks2) ∈ news) {d : Addr} {od : Obj} {kvs : List (PySem.Str × Value)} (hmd : (d, od) ∈ news) (hdd : DictIs w d od kvs) {e : Addr} {oe : Obj} {kve : List (PySem.Str × Value)} (hme : (e, oe) ∈ news) (hde : DictIs w e oe kve) {x dx hh : Addr} {oc : Value} {k1 k2 : Tok} (hx : (x, instObj 395 dx) ∈ news) (hdx : (dx, streamObj w hh oc k1 k2) ∈ news) {way : PySem.Str} {tw : Tok} (hv : valueAt kvs (PySem.Str.ofString "AP") = some (.ref e)) (hw : valueAt kve way = none) (hn : valueAt kve (PySem.Str.ofString "N") = some (.ref x)) (ret : ∀ h' tk', Fr h₀ L h' m → News h₀ L h' news → Q (.ref x) { s with heap := h', toks := tk' }) : wpAny (model PySem.Challenge.rw_qz0079_01.row.prog w) (ktrTop dp un gd cn cs L a₀ ccd cl outer) (call (.ref 497) [.ref sh, .ref d, .str way tw]) Q E s := by
  revert X; k_fill; intro X
  w_on
  refine wpAny_call ?_
  k_dflt (refine' code_def ?k1 ?k2 ?k3 ?k4 ?k5 ?kA ?kF ?kK ?k6 ?k7 ?k8 ?k9 ?kB ?_ ?c2 ?c3 ?c4 ?c5; (case kA => exact rfl); (case kF => exact rfl); (case kK => assumption); (case k1 => k_asm); (case k2 => k_asm); (case k3 => k_asm); (case k4 => k_asm); (case k5 => k_asm); (case k6 => k_is); (case k7 => k_is); (case k8 => ktr_room); (case k9 => exact binds_K (by k_in) rfl (by k_is) rfl rfl rfl); (case c5 => decide); (case kB => exact locs rfl); (case c2 => exact rfl); (case c3 => exact rfl); (case c4 => exact rfl); k_whole; intro g' L' h' FG' F' N' B' X' T'; (try dsimp only); (try k_fold))
  k_steps
  rename Fr h₀ L _ m => kF
  rename News h₀ L _ _ => kN
  exact ret _ _ kF (cb_drop kN (by walk_at "c sub"))

end
end PartC17
section PartC18
/-- the matrix that a form's head tells -/
inductive FormM (news : List (Addr × Obj)) (kvs : List (PySem.Str × Value)) : Int → Int → Int → Int → Int → Int → Prop
  | plain (hv : valueAt kvs (PySem.Str.ofString "Matrix") = none) : FormM news kvs 1 0 0 1 0 0
  | made {l : Addr} {n : Nat} {a b c d e f : Int} {ta tb tc td te tf : Tok} (hv : valueAt kvs (PySem.Str.ofString "Matrix") = some (.ref l)) (hl : (l, listOf #[.int a ta, .int b tb, .int c tc, .int d td, .int e te, .int f tf] n) ∈ news) : FormM news kvs a b c d e f
theorem FormM.mono {news news' : List (Addr × Obj)} {kvs : List (PySem.Str × Value)} {a b c d e f : Int} (h : FormM news kvs a b c d e f) (hs : ∀ p ∈ news, p ∈ news') : FormM news' kvs a b c d e f := by
  cases h with
  | plain hv => exact .plain hv
  | made hv hl => exact .made hv (hs _ hl)
theorem lines_C18_1 : True := by
  k_with_none
  k_with "c mem" =>
    first | ((with_reducible refine' mem_here ?z471zh9); (case z471zh9 => exact rfl)) | ((with_reducible refine' mem_nth 1 ?z471zh9); (case z471zh9 => exact rfl)) | ((with_reducible refine' mem_nth 2 ?z471zh9); (case z471zh9 => exact rfl)) | ((with_reducible refine' mem_nth 3 ?z471zh9); (case z471zh9 => exact rfl)) | ((with_reducible refine' mem_nth 4 ?z471zh9); (case z471zh9 => exact rfl)) | ((with_reducible refine' mem_nth 5 ?z471zh9); (case z471zh9 => exact rfl)) | ((with_reducible refine' mem_nth 6 ?z471zh9); (case z471zh9 => exact rfl)) | ((with_reducible refine' mem_nth 7 ?z471zh9); (case z471zh9 => exact rfl)) | ((with_reducible refine' mem_nth 8 ?z471zh9); (case z471zh9 => exact rfl)) | ((with_reducible refine' mem_nth 9 ?z471zh9); (case z471zh9 => exact rfl)) | ((with_reducible refine' mem_skip ?_); walk_at "c mem") | (with_reducible exact List.mem_append_left _ (by with_reducible assumption)) | ktr_member | ((with_reducible refine' List.mem_cons_of_mem _ ?_); walk_at "c mem") | ((with_reducible refine' List.mem_append_right _ ?_); walk_at "c mem")
  k_with "c room" =>
    with_reducible first | assumption | exact room1 (by assumption) rfl | exact room2 (by assumption) rfl | exact room3 (by assumption) rfl | exact room4 (by assumption) rfl
  k_with "c le" =>
    with_reducible first | assumption | exact Nat.le_trans (by assumption) (by decide)
  k_with "c lt1" =>
    with_reducible first | assumption | exact cj0 | exact cj1 | exact cj2 | exact cj3 | exact cj4 | exact cj5 | exact cj6 | exact cj7 | exact cj8 | exact cj9 | exact cj10 | exact cj11 | exact cj12 | exact cj13 | exact cj14 | exact cj15 | exact cj16 | exact cj17 | exact cj18 | exact cj19 | exact cj20 | exact cj21 | exact cj22 | exact cj23 | exact And.right (by with_reducible assumption) | exact And.right (And.right (by with_reducible assumption)) | exact And.right (And.right (And.right (by with_reducible assumption))) | exact And.right (And.right (And.right (And.right (by with_reducible assumption))))
  k_with "c lt2" =>
    ((with_reducible refine' Nat.lt_trans ?z475za9 ?z475zb9); (case z475zb9 => with_reducible assumption); (case z475za9 => walk_at "c lt1"))
  k_with "c lt" =>
    first | walk_at "c lt1" | walk_at "c lt2"
  k_with "c up3" =>
    with_reducible first | exact abv3 (by assumption) | exact abv3_1 (by assumption) | exact abv3_2 (by assumption) | exact abv3_3 (by assumption) | exact abv3_4 (by assumption) | (refine' Abv3.tr ?z477za9 ?z477zb9; (case z477za9 => assumption); (case z477zb9 => walk_at "c up3"))
  k_with "c ne" =>
    first | with_reducible (first | assumption | exact And.left (by assumption) | exact Ne.symm (And.left (by assumption)) | exact And.left (And.right (by assumption)) | exact Ne.symm (And.left (And.right (by assumption))) | exact And.right (And.right (by assumption)) | exact Ne.symm (And.right (And.right (by assumption))) | exact neq_lt (by assumption) | exact neq_gt (by assumption) | exact nl0 | exact nr0 | exact nl1 | exact nr1 | exact nl2 | exact nr2 | exact nl3 | exact nr3 | exact nl4 | exact nr4 | exact nl5 | exact nr5 | exact nl6 | exact nr6 | exact nl7 | exact nr7 | exact nl8 | exact nr8 | exact nl9 | exact nr9 | exact nl10 | exact nr10 | exact nl11 | exact nr11 | exact nl12 | exact nr12 | exact nl13 | exact nr13 | exact nl14 | exact nr14 | exact nl15 | exact nr15 | exact nl16 | exact nr16 | exact nl17 | exact nr17 | exact nl18 | exact nr18 | exact nl19 | exact nr19 | exact nl20 | exact nr20 | exact nl21 | exact nr21 | exact nl22 | exact nr22 | exact nl23 | exact nr23) | ((with_reducible refine' neq_lt ?z478zz9); (case z478zz9 => walk_at "c lt2")) | ((with_reducible refine' neq_gt ?z478zz9); (case z478zz9 => walk_at "c lt2")) | ((try dsimp only); omega)
  k_with "c dp" =>
    ((try simp only [depth_under_make, depth_under_kw, depth_in1, depth_deeper, depth_caller]); (try dsimp only [ktrTop]); first | walk_at "c room" | omega | decide)
  k_with "c un" =>
    ((try simp only [units_make, units_in1, units_deeper, Around.mark_units, units_caller]); (try dsimp only [ktrTop]); first | walk_at "c room" | omega | decide)
  k_with "c sub" =>
    first | (refine List.forall_mem_cons.mpr ⟨?z481za, ?z481zb⟩; (case z481za => walk_at "c mem"); (case z481zb => walk_at "c sub")) | exact List.forall_mem_nil _ | (intro p9 h9; (repeat (first | exact h9 | refine List.mem_cons_of_mem _ ?_ | refine List.mem_append_left _ ?_)))
  k_with "c bnd" =>
    with_reducible (first | assumption | exact Bnd.pow _ | (refine' Bnd.fdiv ?z482za; (case z482za => walk_at "c bnd")) | (exact Bnd.mul (by walk_at "c bnd") (by walk_at "c bnd")) | (exact Bnd.add1 (by walk_at "c bnd") (by walk_at "c bnd")) | (exact Bnd.sub1 (by walk_at "c bnd") (by walk_at "c bnd")) | (exact Bnd.add (by walk_at "c bnd") (by walk_at "c bnd")) | (exact Bnd.sub (by walk_at "c bnd") (by walk_at "c bnd")))
  k_with "c ar" =>
    first | assumption | decide | omega | (split <;> omega)
  k_with "c mul" =>
    exact mulOk_bnd (by walk_at "c bnd") (by walk_at "c bnd") (by walk_at "c ar") (by walk_at "c ar")
  k_with "binaryOp Pow int int" =>
    ((with_reducible refine pow_int_small ?z485zkb1 ?z485zkb2 ?z485zkb3 ?_); (case z485zkb1 => walk_at "c ar"); (case z485zkb2 => walk_at "c ar"); (case z485zkb3 => decide))
  k_with "call ref" =>
    (k_here; (with_reducible show wpAny _ _ (call (Prod.fst _) (_ ++ _)) _ _ _); dsimp only [List.nil_append, List.cons_append])
  k_with "subscriptTail" =>
    (k_here; (with_reducible show wpAny _ _ (subscriptTail _ _ (Value.ref _) (Value.int _ _)) _ _ _); k_dflt (first
    | (refine' item_tupleT ?z487zt ?z487za ?z487zb ?z487zc ?z487zd ?_; (case z487zt => exact News.isTup (by k_asm) (by k_mem)); (case z487za => decide); (case z487zb => decide); (case z487zc => exact rfl); (case z487zd => exact rfl); k_whole)
    | (refine' c_item ?z487zN ?z487zm ?z487za ?z487zb ?z487zc ?_ ?z487zz; (case z487zN => k_asm); (case z487zm => k_mem); (case z487za => decide); (case z487zb => decide); (case z487zc => exact rfl); (case z487zz => with_unfolding_all rfl); k_whole)))
  k_with "subscriptTail Name Constant ref int" =>
    (k_here; (with_reducible show wpAny _ _ (subscriptTail _ _ (Value.ref _) (Value.int _ _)) _ _ _); k_dflt (first
    | (refine' item_tupleT ?z488zt ?z488za ?z488zb ?z488zc ?z488zd ?_; (case z488zt => exact News.isTup (by k_asm) (by k_mem)); (case z488za => decide); (case z488zb => decide); (case z488zc => exact rfl); (case z488zd => exact rfl); k_whole)
    | (refine' c_item ?z488zN ?z488zm ?z488za ?z488zb ?z488zc ?_ ?z488zz; (case z488zN => k_asm); (case z488zm => k_mem); (case z488za => decide); (case z488zb => decide); (case z488zc => exact rfl); (case z488zz => with_unfolding_all rfl); k_whole)))
  trivial
section
variable {w : World} {mean : ExcName → Option Value} {mg mb : PySem.Str → Option Value} {dp un : Nat} {gd : Option (List Code)} {cn : PySem.Str} {cs : Scope} {a₀ : Addr} {ccd : Value} {cl : List (PySem.Str × Addr)} {outer : List Env}
  {A₀ : Around} {base h₀ : Heap} {L : Addr} {m : PySem.Str → Option Value} {s : Shared} {news : List (Addr × Obj)} {Q E : Value → Shared → Prop}
theorem lines_C18_2 : True := by
  k_with "getMethod ref" =>
    (k_here; (with_reducible show wpAny _ _ (getMethod (Value.ref _) (PySem.Str.ofString "get") _) _ _ _); k_dflt (refine kdg_method (knd := PySem.strKind _ _) (by k_asm) (by k_mem) (DictIs.is (by assumption)) ?_))
  k_with "call builtin:dict.get" =>
    (k_here; k_dflt (first
    | refine kdg_get1 (knd := PySem.strKind _ _) (by k_asm) (by k_mem) (DictIs.is (by assumption)) (DictIs.lo (by assumption)) (strKind_is _ _ _ _) _ (by assumption) ?_
    | refine kdg_get1 (knd := PySem.strKind _ _) (by k_asm) (by k_mem) (DictIs.is (by assumption)) (DictIs.lo (by assumption)) (strKind_is _ _ _ _) (some _) (by rfl) ?_
    | refine kdg_get1 (knd := PySem.strKind _ _) (by k_asm) (by k_mem) (DictIs.is (by assumption)) (DictIs.lo (by assumption)) (strKind_is _ _ _ _) none (by rfl) ?_); (try dsimp only [Option.getD]))
  k_with "call ref" =>
    (k_here; (with_reducible show wpAny _ _ (call (Value.ref 470) [Value.ref _, Value.ref _, Value.str _ _]) _ _ _); k_dflt (first | (refine' c_get_none ?z491zcB ?z491zcF ?z491zcX ?z491zcN ?z491zcT ?z491zcK ?z491zcD ?z491zcU ?z491zp0 ?z491zp1 ?z491zp2 ?z491zp3 ?z491zp4 ?_; (case z491zcB => k_asm); (case z491zcF => k_asm); (case z491zcX => k_asm); (case z491zcN => k_asm); (case z491zcT => k_asm); (case z491zcK => first | exact rfl | assumption); (case z491zcD => walk_at "c dp"); (case z491zcU => walk_at "c un"); (case z491zp0 => k_mem); (case z491zp1 => k_mem); (case z491zp2 => k_mem); (case z491zp3 => assumption); (case z491zp4 => first | assumption | exact rfl)) | (refine' c_get_dict ?z491zcB ?z491zcF ?z491zcX ?z491zcN ?z491zcT ?z491zcK ?z491zcD ?z491zcU ?z491zp0 ?z491zp1 ?z491zp2 ?z491zp3 ?z491zp4 ?z491zp5 ?z491zp6 ?_; (case z491zcB => k_asm); (case z491zcF => k_asm); (case z491zcX => k_asm); (case z491zcN => k_asm); (case z491zcT => k_asm); (case z491zcK => first | exact rfl | assumption); (case z491zcD => walk_at "c dp"); (case z491zcU => walk_at "c un"); (case z491zp0 => k_mem); (case z491zp1 => k_mem); (case z491zp2 => k_mem); (case z491zp3 => assumption); (case z491zp6 => first | assumption | exact rfl); (case z491zp4 => k_mem); (case z491zp5 => assumption)) | (refine' c_get_stream ?z491zcB ?z491zcF ?z491zcX ?z491zcN ?z491zcT ?z491zcK ?z491zcD ?z491zcU ?z491zp0 ?z491zp1 ?z491zp2 ?z491zp3 ?z491zp4 ?z491zp5 ?z491zp6 ?_; (case z491zcB => k_asm); (case z491zcF => k_asm); (case z491zcX => k_asm); (case z491zcN => k_asm); (case z491zcT => k_asm); (case z491zcK => first | exact rfl | assumption); (case z491zcD => walk_at "c dp"); (case z491zcU => walk_at "c un"); (case z491zp0 => k_mem); (case z491zp1 => k_mem); (case z491zp2 => k_mem); (case z491zp3 => assumption); (case z491zp6 => first | assumption | exact rfl); (case z491zp4 => k_mem); (case z491zp5 => k_mem)) | (refine' c_get_list ?z491zcB ?z491zcF ?z491zcX ?z491zcN ?z491zcT ?z491zcK ?z491zcD ?z491zcU ?z491zp0 ?z491zp1 ?z491zp2 ?z491zp3 ?z491zp4 ?z491zp5 ?_; (case z491zcB => k_asm); (case z491zcF => k_asm); (case z491zcX => k_asm); (case z491zcN => k_asm); (case z491zcT => k_asm); (case z491zcK => first | exact rfl | assumption); (case z491zcD => walk_at "c dp"); (case z491zcU => walk_at "c un"); (case z491zp0 => k_mem); (case z491zp1 => k_mem); (case z491zp2 => k_mem); (case z491zp3 => assumption); (case z491zp5 => first | assumption | exact rfl); (case z491zp4 => k_mem))); intro h' tk' F' N'; (try k_sweep); (try dsimp only); (try k_fold))
  k_with "call ref" =>
    (k_here; (with_reducible show wpAny _ _ (call (Value.ref 463) [Value.ref _, Value.int _ _]) _ _ _); k_dflt (refine' c_fetch_int ?z492zcB ?z492zcF ?z492zcX ?z492zcN ?z492zcT ?z492zcK ?z492zcD ?z492zcU  ?_; (case z492zcB => k_asm); (case z492zcF => k_asm); (case z492zcX => k_asm); (case z492zcN => k_asm); (case z492zcT => k_asm); (case z492zcK => first | exact rfl | assumption); (case z492zcD => walk_at "c dp"); (case z492zcU => walk_at "c un"); intro h' tk' F' N'; (try k_sweep); (try dsimp only); (try k_fold)))
  k_with "call ref" =>
    (k_here; (with_reducible show wpAny _ _ (call (Value.ref 441) [Value.int _ _]) _ _ _); k_dflt (refine' c_isnum ?z493zcB ?z493zcF ?z493zcX ?z493zcN ?z493zcT ?z493zcK ?z493zcD ?z493zcU  ?_; (case z493zcB => k_asm); (case z493zcF => k_asm); (case z493zcX => k_asm); (case z493zcN => k_asm); (case z493zcT => k_asm); (case z493zcK => first | exact rfl | assumption); (case z493zcD => walk_at "c dp"); (case z493zcU => walk_at "c un"); intro h' tk' F' N'; (try k_sweep); (try dsimp only); (try k_fold)))
  k_with "call ref" =>
    (k_here; (with_reducible show wpAny _ _ (call (Value.ref 297) [Value.ref _]) _ _ _); k_dflt (refine' c_from ?z494zcB ?z494zcF ?z494zcX ?z494zcN ?z494zcT ?z494zcK ?z494zcD ?z494zcU ?z494zp0 ?z494zp1 ?z494zp2 ?z494zp3 ?z494zp4 ?z494zp5 ?z494zp6 ?_; (case z494zcB => k_asm); (case z494zcF => k_asm); (case z494zcX => k_asm); (case z494zcN => k_asm); (case z494zcT => k_asm); (case z494zcK => first | exact rfl | assumption); (case z494zcD => walk_at "c dp"); (case z494zcU => walk_at "c un"); (case z494zp0 => k_mem); (case z494zp1 => with_reducible assumption); (case z494zp2 => with_reducible assumption); (case z494zp3 => with_reducible assumption); (case z494zp4 => with_reducible assumption); (case z494zp5 => with_reducible assumption); (case z494zp6 => with_reducible assumption); intro x' d' k1' k2' k3' k4' k5' k6' a' da' ka1' ka2' ka3' ka4' b' db' kb1' kb2' kb3' kb4' c' dc' kc1' kc2' kc3' kc4' d' dd' kd1' kd2' kd3' kd4' e' de' ke1' ke2' ke3' ke4' f' df' kf1' kf2' kf3' kf4' h' tk' F' N' l1 hqa' hqb' hqc' hqd' hqe' hqf'; (try k_sweep); (try dsimp only); (try k_fold)))
  k_with "call ref" =>
    (k_here; (with_reducible show wpAny _ _ (call (Value.ref 290) _) _ _ _); k_dflt (refine' c_identity ?z495zcB ?z495zcF ?z495zcX ?z495zcN ?z495zcT ?z495zcK ?z495zcD ?z495zcU ?_; (case z495zcB => k_asm); (case z495zcF => k_asm); (case z495zcX => k_asm); (case z495zcN => k_asm); (case z495zcT => k_asm); (case z495zcK => first | exact rfl | assumption); (case z495zcD => walk_at "c dp"); (case z495zcU => walk_at "c un"); intro x' d' k1' k2' k3' k4' k5' k6' a' da' ka1' ka2' ka3' ka4' b' db' kb1' kb2' kb3' kb4' c' dc' kc1' kc2' kc3' kc4' d' dd' kd1' kd2' kd3' kd4' e' de' ke1' ke2' ke3' ke4' f' df' kf1' kf2' kf3' kf4' h' tk' F' N' l1 hqa' hqb' hqc' hqd' hqe' hqf'; (try k_sweep); (try dsimp only); (try k_fold)))
  k_with "c kept" =>
    first | exact Kept.done (by with_reducible assumption) | (refine' Kept.skipI ?z496zk9; (case z496zk9 => walk_at "c kept")) | (refine' Kept.skipC ?z496zk9; (case z496zk9 => walk_at "c kept")) | (refine' Kept.skipD ?z496zk9; (case z496zk9 => walk_at "c kept")) | ((with_reducible refine' Kept.takeF ?z496zu9 ?z496zk9); (case z496zu9 => with_reducible assumption); (case z496zk9 => walk_at "c kept")) | ((with_reducible refine' Kept.take3 ?z496zu9 ?z496zk9); (case z496zu9 => walk_at "c up3"); (case z496zk9 => walk_at "c kept")) | (refine' Kept.take ?z496za ?z496zb ?z496zc ?z496zk9; (case z496za => first | walk_at "c ne" | omega); (case z496zb => first | walk_at "c ne" | omega); (case z496zc => first | walk_at "c ne" | omega); (case z496zk9 => walk_at "c kept"))
  k_with "CompEnd" =>
    (k_dflt (refine' kept_end ?z497zF ?z497zN ?z497zk ?z497zi ?z497zc ?z497zd ?z497zs ?_; (case z497zF => k_asm); (case z497zN => k_asm); (case z497zk => with_reducible walk_at "c kept"); (case z497zi => k_mem); (case z497zc => k_mem); (case z497zd => k_mem); (case z497zs => first | exact True.intro | (refine' src_list ?z497zm1; (case z497zm1 => k_mem)) | exact Or.inl (by assumption))))
  k_with "CompRest" =>
    (with_unfolding_all first
    | (refine LCg.CompRest.succ ?_; intro v' I' oI' C' oC' D' m' h' tk' E' hv' hC' hx' F' N' off' ne'; (first | lcg_open hv' | (obtain ⟨t9', hv9'⟩ := hv'; subst hv9')))
    | refine LCg.CompRest.zero ?_)
  k_with "FinE" =>
    ((unfold LCg.FinE); intro D' h' tk' F' N' o1'; clear o1'; (try simp only [List.nil_append, List.cons_append] at N'); (try dsimp only))
  k_with "CompRestP" =>
    (with_unfolding_all first
    | (refine LCp.CompRestP.succ ?_; intro v' hv'; lcg_open hv'; refine ⟨_, _, _, _, _, rfl, by k_mem, rfl, rfl, ?_⟩; intro I' oI' C' oC' D' m' h' tk' E' hC' hx' hy' F' N' off' ne')
    | refine LCp.CompRestP.zero ?_)
  k_with "FinA" =>
    ((unfold LCg.FinA); intro D' h' tk' F' N' o1'; clear o1'; (try simp only [List.nil_append, List.cons_append] at N'); (try dsimp only))
  k_with "CompSrc" =>
    (k_here; k_dflt (refine LCg.CompSrc.ledger (by rfl) (by k_asm) (by k_asm) (by k_mem) (by first | size_fits | exact Nat.le_of_ble_eq_true rfl) ?_; intro g'; lcg_lit))
  k_with "exec Assign cons ListComp" =>
    (k_here; lcg_look; k_dflt (refine LCg.Assign_ListComp_U (F₀ := by k_asm) (by rfl) (by with_unfolding_all rfl) (by rfl) (by decide) (by rfl) (by decide) (by rfl) (by rfl) (by rfl) ?_); k_dflt lcg_toSrc)
  k_with "subscriptTail Name Constant ref int" =>
    (k_here; (with_reducible show wpAny _ _ (subscriptTail _ _ (Value.ref _) (Value.int _ _)) _ _ _); k_dflt (refine' c_item ?z504zN ?z504zm ?z504za ?z504zb ?z504zc ?_ ?z504zz; (case z504zN => k_asm); (case z504zm => k_mem); (case z504za => decide); (case z504zb => decide); (case z504zc => exact rfl); (case z504zz => with_unfolding_all rfl); k_whole))
  trivial

theorem c_fm_none (B : Below A₀ base outer h₀) (F : Fr h₀ L s.heap m) (X : (Mine.hd0.heap_1 w.params).In h₀) (N : News h₀ L s.heap news) (T : Top VW LS mean mg mb h₀) (hk : cs.kind = .function) (hd : dp + 40 < recursionLimit) (hu : un + 400 < cLine) {sh dsh tb tr : Addr} {ks1 ks2 : Tok} (hsh : (sh, instObj 473 dsh) ∈ news) (hdsh : (dsh, shelfObj w tb tr ks1 ks2) ∈ news) {x dx hh : Addr} {oc : Value} {k1 k2 : Tok} (hx : (x, instObj 395 dx) ∈ news) (hdx : (dx, streamObj w hh oc k1 k2) ∈ news) {ohh : Obj} {kvs : List (PySem.Str × Value)} (hmhh : (hh, ohh) ∈ news) (hdhh : DictIs w hh ohh kvs) (hv : valueAt kvs (PySem.Str.ofString "Matrix") = none) (ret : RetMat w h₀ L m news s Q ((1 : Int) : Rat) ((0 : Int) : Rat) ((0 : Int) : Rat) ((1 : Int) : Rat) ((0 : Int) : Rat) ((0 : Int) : Rat) 3) : wpAny (model PySem.Challenge.rw_qz0079_01.row.prog w) (ktrTop dp un gd cn cs L a₀ ccd cl outer) (call (.ref 502) [.ref sh, .ref x]) Q E s := by
  revert X; k_fill; intro X
  w_on
  refine wpAny_call ?_
  k_dflt (refine' code_defC ?k1 ?k2 ?k3 ?k4 ?k5 ?kA ?kF ?kK ?k6 ?k7 ?k8 ?k9 ?kB ?kD ?_ ?c2 ?c3 ?c4; (case kA => exact rfl); (case kF => exact rfl); (case kK => assumption); (case k1 => k_asm); (case k2 => k_asm); (case k3 => k_asm); (case k4 => k_asm); (case k5 => k_asm); (case k6 => k_is); (case k7 => k_is); (case k8 => ktr_room); (case k9 => exact BindsTo.of_eq rfl); (case kB => exact rfl); (case kD => decide +kernel); (case c2 => exact rfl); (case c3 => exact rfl); (case c4 => exact rfl); k_whole; intro g' L' h' tk' cells' FG' F' N' Y' B' X' T' l1; (try k_lt l1); k_cells Y'; (try simp only [List.cons_append, List.nil_append] at N'); (try dsimp only); (try k_fold))
  k_steps
  rename Fr h₀ L _ m => kF
  rename News h₀ L _ _ => kN
  exact ret _ _ _ _ _ _ _ _ _ _ _ _ _ _ _ _ _ _ _ _ _ _ _ _ _ _ _ _ _ _ _ _ _ _ _ _ _ _ _ _ _ _ _ _ _ _ kF (cb_drop kN (by walk_at "c sub")) (fresh_sub (by with_reducible assumption) (by walk_at "c sub")) (by with_reducible assumption) (by with_reducible assumption) (by with_reducible assumption) (by with_reducible assumption) (by with_reducible assumption) (by with_reducible assumption)

theorem c_fm_some (B : Below A₀ base outer h₀) (F : Fr h₀ L s.heap m) (X : (Mine.hd0.heap_1 w.params).In h₀) (N : News h₀ L s.heap news) (T : Top VW LS mean mg mb h₀) (hk : cs.kind = .function) (hd : dp + 40 < recursionLimit) (hu : un + 400 < cLine) {sh dsh tb tr : Addr} {ks1 ks2 : Tok} (hsh : (sh, instObj 473 dsh) ∈ news) (hdsh : (dsh, shelfObj w tb tr ks1 ks2) ∈ news) {x dx hh : Addr} {oc : Value} {k1 k2 : Tok} (hx : (x, instObj 395 dx) ∈ news) (hdx : (dx, streamObj w hh oc k1 k2) ∈ news) {ohh : Obj} {kvs : List (PySem.Str × Value)} (hmhh : (hh, ohh) ∈ news) (hdhh : DictIs w hh ohh kvs) {l : Addr} {n9 : Nat} {a b c d e f : Int} {ta tb tc td te tf : Tok} (hl : (l, listOf #[.int a ta, .int b tb, .int c tc, .int d td, .int e te, .int f tf] n9) ∈ news) (hv : valueAt kvs (PySem.Str.ofString "Matrix") = some (.ref l)) (ba : Bnd a 3) (bb : Bnd b 3) (bc : Bnd c 3) (bd : Bnd d 3) (be : Bnd e 3) (bf : Bnd f 3) (ret : RetMat w h₀ L m news s Q (a : Rat) (b : Rat) (c : Rat) (d : Rat) (e : Rat) (f : Rat) 3) : wpAny (model PySem.Challenge.rw_qz0079_01.row.prog w) (ktrTop dp un gd cn cs L a₀ ccd cl outer) (call (.ref 502) [.ref sh, .ref x]) Q E s := by
  revert X; k_fill; intro X
  w_on
  refine wpAny_call ?_
  k_dflt (refine' code_defC ?k1 ?k2 ?k3 ?k4 ?k5 ?kA ?kF ?kK ?k6 ?k7 ?k8 ?k9 ?kB ?kD ?_ ?c2 ?c3 ?c4; (case kA => exact rfl); (case kF => exact rfl); (case kK => assumption); (case k1 => k_asm); (case k2 => k_asm); (case k3 => k_asm); (case k4 => k_asm); (case k5 => k_asm); (case k6 => k_is); (case k7 => k_is); (case k8 => ktr_room); (case k9 => exact BindsTo.of_eq rfl); (case kB => exact rfl); (case kD => decide +kernel); (case c2 => exact rfl); (case c3 => exact rfl); (case c4 => exact rfl); k_whole; intro g' L' h' tk' cells' FG' F' N' Y' B' X' T' l1; (try k_lt l1); k_cells Y'; (try simp only [List.cons_append, List.nil_append] at N'); (try dsimp only); (try k_fold))
  k_steps
  rename Fr h₀ L _ m => kF
  rename News h₀ L _ _ => kN
  exact ret _ _ _ _ _ _ _ _ _ _ _ _ _ _ _ _ _ _ _ _ _ _ _ _ _ _ _ _ _ _ _ _ _ _ _ _ _ _ _ _ _ _ _ _ _ _ kF (cb_drop kN (by walk_at "c sub")) (fresh_sub (by with_reducible assumption) (by walk_at "c sub")) (by with_reducible assumption) (by with_reducible assumption) (by with_reducible assumption) (by with_reducible assumption) (by with_reducible assumption) (by with_reducible assumption)

theorem c_fm (B : Below A₀ base outer h₀) (F : Fr h₀ L s.heap m) (X : (Mine.hd0.heap_1 w.params).In h₀) (N : News h₀ L s.heap news) (T : Top VW LS mean mg mb h₀) (hk : cs.kind = .function) (hd : dp + 40 < recursionLimit) (hu : un + 400 < cLine) {sh dsh tb tr : Addr} {ks1 ks2 : Tok} (hsh : (sh, instObj 473 dsh) ∈ news) (hdsh : (dsh, shelfObj w tb tr ks1 ks2) ∈ news) {x dx hh : Addr} {oc : Value} {k1 k2 : Tok} (hx : (x, instObj 395 dx) ∈ news) (hdx : (dx, streamObj w hh oc k1 k2) ∈ news) {ohh : Obj} {kvs : List (PySem.Str × Value)} (hmhh : (hh, ohh) ∈ news) (hdhh : DictIs w hh ohh kvs) {a b c d e f : Int} (hM : FormM news kvs a b c d e f) (ba : Bnd a 3) (bb : Bnd b 3) (bc : Bnd c 3) (bd : Bnd d 3) (be : Bnd e 3) (bf : Bnd f 3) (ret : RetMat w h₀ L m news s Q (a : Rat) (b : Rat) (c : Rat) (d : Rat) (e : Rat) (f : Rat) 3) : wpAny (model PySem.Challenge.rw_qz0079_01.row.prog w) (ktrTop dp un gd cn cs L a₀ ccd cl outer) (call (.ref 502) [.ref sh, .ref x]) Q E s := by
  cases hM with
  | plain hv => exact c_fm_none B F X N T hk hd hu hsh hdsh hx hdx hmhh hdhh hv ret
  | made hv hl => exact c_fm_some B F X N T hk hd hu hsh hdsh hx hdx hmhh hdhh hl hv ba bb bc bd be bf ret

end
end PartC18
section PartC19
theorem lines_C19_1 : True := by
  k_with_none
  k_with "c mem" =>
    first | ((with_reducible refine' mem_here ?z505zh9); (case z505zh9 => exact rfl)) | ((with_reducible refine' mem_nth 1 ?z505zh9); (case z505zh9 => exact rfl)) | ((with_reducible refine' mem_nth 2 ?z505zh9); (case z505zh9 => exact rfl)) | ((with_reducible refine' mem_nth 3 ?z505zh9); (case z505zh9 => exact rfl)) | ((with_reducible refine' mem_nth 4 ?z505zh9); (case z505zh9 => exact rfl)) | ((with_reducible refine' mem_nth 5 ?z505zh9); (case z505zh9 => exact rfl)) | ((with_reducible refine' mem_nth 6 ?z505zh9); (case z505zh9 => exact rfl)) | ((with_reducible refine' mem_nth 7 ?z505zh9); (case z505zh9 => exact rfl)) | ((with_reducible refine' mem_nth 8 ?z505zh9); (case z505zh9 => exact rfl)) | ((with_reducible refine' mem_nth 9 ?z505zh9); (case z505zh9 => exact rfl)) | ((with_reducible refine' mem_skip ?_); walk_at "c mem") | (with_reducible exact List.mem_append_left _ (by with_reducible assumption)) | ktr_member | ((with_reducible refine' List.mem_cons_of_mem _ ?_); walk_at "c mem") | ((with_reducible refine' List.mem_append_right _ ?_); walk_at "c mem")
  k_with "c room" =>
    with_reducible first | assumption | exact room1 (by assumption) rfl | exact room2 (by assumption) rfl | exact room3 (by assumption) rfl | exact room4 (by assumption) rfl
  k_with "c le" =>
    with_reducible first | assumption | exact Nat.le_trans (by assumption) (by decide)
  k_with "c lt1" =>
    with_reducible first | assumption | exact cj0 | exact cj1 | exact cj2 | exact cj3 | exact cj4 | exact cj5 | exact cj6 | exact cj7 | exact cj8 | exact cj9 | exact cj10 | exact cj11 | exact cj12 | exact cj13 | exact cj14 | exact cj15 | exact cj16 | exact cj17 | exact cj18 | exact cj19 | exact cj20 | exact cj21 | exact cj22 | exact cj23 | exact And.right (by with_reducible assumption) | exact And.right (And.right (by with_reducible assumption)) | exact And.right (And.right (And.right (by with_reducible assumption))) | exact And.right (And.right (And.right (And.right (by with_reducible assumption))))
  k_with "c lt2" =>
    ((with_reducible refine' Nat.lt_trans ?z509za9 ?z509zb9); (case z509zb9 => with_reducible assumption); (case z509za9 => walk_at "c lt1"))
  k_with "c lt" =>
    first | walk_at "c lt1" | walk_at "c lt2"
  k_with "c up3" =>
    with_reducible first | exact abv3 (by assumption) | exact abv3_1 (by assumption) | exact abv3_2 (by assumption) | exact abv3_3 (by assumption) | exact abv3_4 (by assumption) | (refine' Abv3.tr ?z511za9 ?z511zb9; (case z511za9 => assumption); (case z511zb9 => walk_at "c up3"))
  k_with "c ne" =>
    first | with_reducible (first | assumption | exact And.left (by assumption) | exact Ne.symm (And.left (by assumption)) | exact And.left (And.right (by assumption)) | exact Ne.symm (And.left (And.right (by assumption))) | exact And.right (And.right (by assumption)) | exact Ne.symm (And.right (And.right (by assumption))) | exact neq_lt (by assumption) | exact neq_gt (by assumption) | exact nl0 | exact nr0 | exact nl1 | exact nr1 | exact nl2 | exact nr2 | exact nl3 | exact nr3 | exact nl4 | exact nr4 | exact nl5 | exact nr5 | exact nl6 | exact nr6 | exact nl7 | exact nr7 | exact nl8 | exact nr8 | exact nl9 | exact nr9 | exact nl10 | exact nr10 | exact nl11 | exact nr11 | exact nl12 | exact nr12 | exact nl13 | exact nr13 | exact nl14 | exact nr14 | exact nl15 | exact nr15 | exact nl16 | exact nr16 | exact nl17 | exact nr17 | exact nl18 | exact nr18 | exact nl19 | exact nr19 | exact nl20 | exact nr20 | exact nl21 | exact nr21 | exact nl22 | exact nr22 | exact nl23 | exact nr23) | ((with_reducible refine' neq_lt ?z512zz9); (case z512zz9 => walk_at "c lt2")) | ((with_reducible refine' neq_gt ?z512zz9); (case z512zz9 => walk_at "c lt2")) | ((try dsimp only); omega)
  k_with "c dp" =>
    ((try simp only [depth_under_make, depth_under_kw, depth_in1, depth_deeper, depth_caller]); (try dsimp only [ktrTop]); first | walk_at "c room" | omega | decide)
  k_with "c un" =>
    ((try simp only [units_make, units_in1, units_deeper, Around.mark_units, units_caller]); (try dsimp only [ktrTop]); first | walk_at "c room" | omega | decide)
  k_with "c sub" =>
    first | (refine List.forall_mem_cons.mpr ⟨?z515za, ?z515zb⟩; (case z515za => walk_at "c mem"); (case z515zb => walk_at "c sub")) | exact List.forall_mem_nil _ | (intro p9 h9; (repeat (first | exact h9 | refine List.mem_cons_of_mem _ ?_ | refine List.mem_append_left _ ?_)))
  k_with "c bnd" =>
    with_reducible (first | assumption | exact Bnd.pow _ | (refine' Bnd.fdiv ?z516za; (case z516za => walk_at "c bnd")) | (exact Bnd.mul (by walk_at "c bnd") (by walk_at "c bnd")) | (exact Bnd.add1 (by walk_at "c bnd") (by walk_at "c bnd")) | (exact Bnd.sub1 (by walk_at "c bnd") (by walk_at "c bnd")) | (exact Bnd.add (by walk_at "c bnd") (by walk_at "c bnd")) | (exact Bnd.sub (by walk_at "c bnd") (by walk_at "c bnd")))
  k_with "c ar" =>
    first | assumption | decide | omega | (split <;> omega)
  k_with "c mul" =>
    exact mulOk_bnd (by walk_at "c bnd") (by walk_at "c bnd") (by walk_at "c ar") (by walk_at "c ar")
  k_with "binaryOp Pow int int" =>
    ((with_reducible refine pow_int_small ?z519zkb1 ?z519zkb2 ?z519zkb3 ?_); (case z519zkb1 => walk_at "c ar"); (case z519zkb2 => walk_at "c ar"); (case z519zkb3 => decide))
  k_with "call ref" =>
    (k_here; (with_reducible show wpAny _ _ (call (Prod.fst _) (_ ++ _)) _ _ _); dsimp only [List.nil_append, List.cons_append])
  k_with "subscriptTail" =>
    (k_here; (with_reducible show wpAny _ _ (subscriptTail _ _ (Value.ref _) (Value.int _ _)) _ _ _); k_dflt (first
    | (refine' item_tupleT ?z521zt ?z521za ?z521zb ?z521zc ?z521zd ?_; (case z521zt => exact News.isTup (by k_asm) (by k_mem)); (case z521za => decide); (case z521zb => decide); (case z521zc => exact rfl); (case z521zd => exact rfl); k_whole)
    | (refine' c_item ?z521zN ?z521zm ?z521za ?z521zb ?z521zc ?_ ?z521zz; (case z521zN => k_asm); (case z521zm => k_mem); (case z521za => decide); (case z521zb => decide); (case z521zc => exact rfl); (case z521zz => with_unfolding_all rfl); k_whole)))
  k_with "subscriptTail Name Constant ref int" =>
    (k_here; (with_reducible show wpAny _ _ (subscriptTail _ _ (Value.ref _) (Value.int _ _)) _ _ _); k_dflt (first
    | (refine' item_tupleT ?z522zt ?z522za ?z522zb ?z522zc ?z522zd ?_; (case z522zt => exact News.isTup (by k_asm) (by k_mem)); (case z522za => decide); (case z522zb => decide); (case z522zc => exact rfl); (case z522zd => exact rfl); k_whole)
    | (refine' c_item ?z522zN ?z522zm ?z522za ?z522zb ?z522zc ?_ ?z522zz; (case z522zN => k_asm); (case z522zm => k_mem); (case z522za => decide); (case z522zb => decide); (case z522zc => exact rfl); (case z522zz => with_unfolding_all rfl); k_whole)))
  trivial
section
variable {w : World} {mean : ExcName → Option Value} {mg mb : PySem.Str → Option Value} {dp un : Nat} {gd : Option (List Code)} {cn : PySem.Str} {cs : Scope} {a₀ : Addr} {ccd : Value} {cl : List (PySem.Str × Addr)} {outer : List Env}
  {A₀ : Around} {base h₀ : Heap} {L : Addr} {m : PySem.Str → Option Value} {s : Shared} {news : List (Addr × Obj)} {Q E : Value → Shared → Prop}
theorem lines_C19_2 : True := by
  k_with "getMethod ref" =>
    (k_here; (with_reducible show wpAny _ _ (getMethod (Value.ref _) (PySem.Str.ofString "get") _) _ _ _); k_dflt (refine kdg_method (knd := PySem.strKind _ _) (by k_asm) (by k_mem) (DictIs.is (by assumption)) ?_))
  k_with "call builtin:dict.get" =>
    (k_here; k_dflt (first
    | refine kdg_get1 (knd := PySem.strKind _ _) (by k_asm) (by k_mem) (DictIs.is (by assumption)) (DictIs.lo (by assumption)) (strKind_is _ _ _ _) _ (by assumption) ?_
    | refine kdg_get1 (knd := PySem.strKind _ _) (by k_asm) (by k_mem) (DictIs.is (by assumption)) (DictIs.lo (by assumption)) (strKind_is _ _ _ _) (some _) (by rfl) ?_
    | refine kdg_get1 (knd := PySem.strKind _ _) (by k_asm) (by k_mem) (DictIs.is (by assumption)) (DictIs.lo (by assumption)) (strKind_is _ _ _ _) none (by rfl) ?_); (try dsimp only [Option.getD]))
  k_with "call ref" =>
    (k_here; (with_reducible show wpAny _ _ (call (Value.ref 463) [Value.ref _, Value.none]) _ _ _); k_dflt (refine' c_fetch_none ?z525zcB ?z525zcF ?z525zcX ?z525zcN ?z525zcT ?z525zcK ?z525zcD ?z525zcU  ?_; (case z525zcB => k_asm); (case z525zcF => k_asm); (case z525zcX => k_asm); (case z525zcN => k_asm); (case z525zcT => k_asm); (case z525zcK => first | exact rfl | assumption); (case z525zcD => walk_at "c dp"); (case z525zcU => walk_at "c un"); intro h' tk' F' N'; (try k_sweep); (try dsimp only); (try k_fold)))
  k_with "call ref" =>
    (k_here; (with_reducible show wpAny _ _ (call (Value.ref 470) [Value.ref _, Value.ref _, Value.str _ _]) _ _ _); k_dflt (first | (refine' c_get_none ?z526zcB ?z526zcF ?z526zcX ?z526zcN ?z526zcT ?z526zcK ?z526zcD ?z526zcU ?z526zp0 ?z526zp1 ?z526zp2 ?z526zp3 ?z526zp4 ?_; (case z526zcB => k_asm); (case z526zcF => k_asm); (case z526zcX => k_asm); (case z526zcN => k_asm); (case z526zcT => k_asm); (case z526zcK => first | exact rfl | assumption); (case z526zcD => walk_at "c dp"); (case z526zcU => walk_at "c un"); (case z526zp0 => k_mem); (case z526zp1 => k_mem); (case z526zp2 => k_mem); (case z526zp3 => assumption); (case z526zp4 => first | assumption | exact rfl)) | (refine' c_get_dict ?z526zcB ?z526zcF ?z526zcX ?z526zcN ?z526zcT ?z526zcK ?z526zcD ?z526zcU ?z526zp0 ?z526zp1 ?z526zp2 ?z526zp3 ?z526zp4 ?z526zp5 ?z526zp6 ?_; (case z526zcB => k_asm); (case z526zcF => k_asm); (case z526zcX => k_asm); (case z526zcN => k_asm); (case z526zcT => k_asm); (case z526zcK => first | exact rfl | assumption); (case z526zcD => walk_at "c dp"); (case z526zcU => walk_at "c un"); (case z526zp0 => k_mem); (case z526zp1 => k_mem); (case z526zp2 => k_mem); (case z526zp3 => assumption); (case z526zp6 => first | assumption | exact rfl); (case z526zp4 => k_mem); (case z526zp5 => assumption)) | (refine' c_get_stream ?z526zcB ?z526zcF ?z526zcX ?z526zcN ?z526zcT ?z526zcK ?z526zcD ?z526zcU ?z526zp0 ?z526zp1 ?z526zp2 ?z526zp3 ?z526zp4 ?z526zp5 ?z526zp6 ?_; (case z526zcB => k_asm); (case z526zcF => k_asm); (case z526zcX => k_asm); (case z526zcN => k_asm); (case z526zcT => k_asm); (case z526zcK => first | exact rfl | assumption); (case z526zcD => walk_at "c dp"); (case z526zcU => walk_at "c un"); (case z526zp0 => k_mem); (case z526zp1 => k_mem); (case z526zp2 => k_mem); (case z526zp3 => assumption); (case z526zp6 => first | assumption | exact rfl); (case z526zp4 => k_mem); (case z526zp5 => k_mem)) | (refine' c_get_list ?z526zcB ?z526zcF ?z526zcX ?z526zcN ?z526zcT ?z526zcK ?z526zcD ?z526zcU ?z526zp0 ?z526zp1 ?z526zp2 ?z526zp3 ?z526zp4 ?z526zp5 ?_; (case z526zcB => k_asm); (case z526zcF => k_asm); (case z526zcX => k_asm); (case z526zcN => k_asm); (case z526zcT => k_asm); (case z526zcK => first | exact rfl | assumption); (case z526zcD => walk_at "c dp"); (case z526zcU => walk_at "c un"); (case z526zp0 => k_mem); (case z526zp1 => k_mem); (case z526zp2 => k_mem); (case z526zp3 => assumption); (case z526zp5 => first | assumption | exact rfl); (case z526zp4 => k_mem))); intro h' tk' F' N'; (try k_sweep); (try dsimp only); (try k_fold))
  k_with "call ref" =>
    (k_here; (with_reducible show wpAny _ _ (call (Value.ref 482) [Value.ref _, Value.ref _]) _ _ _); k_dflt (refine' c_four ?z527zcB ?z527zcF ?z527zcX ?z527zcN ?z527zcT ?z527zcK ?z527zcD ?z527zcU ?z527zp0 ?z527zp1 ?z527zp2 ?z527zp3 ?z527zp4 ?z527zp5 ?z527zp6 ?z527zp7 ?z527zp8 ?_; (case z527zcB => k_asm); (case z527zcF => k_asm); (case z527zcX => k_asm); (case z527zcN => k_asm); (case z527zcT => k_asm); (case z527zcK => first | exact rfl | assumption); (case z527zcD => walk_at "c dp"); (case z527zcU => walk_at "c un"); (case z527zp0 => k_mem); (case z527zp1 => k_mem); (case z527zp2 => k_mem); (case z527zp3 => with_reducible assumption); (case z527zp4 => with_reducible assumption); (case z527zp5 => with_reducible assumption); (case z527zp6 => with_reducible assumption); (case z527zp7 => with_reducible assumption); (case z527zp8 => with_reducible assumption); intro t' n8' r1' e1' i1' j1' k1' l1' r2' e2' i2' j2' k2' l2' r3' e3' i3' j3' k3' l3' r4' e4' i4' j4' k4' l4' h' tk' F' N' hq1' hq2' hq3' hq4'; (try k_sweep); (try dsimp only); (try k_fold)))
  k_with "call ref" =>
    (k_here; (with_reducible show wpAny _ _ (call (Value.ref 489) [Value.ref _, Value.ref _]) _ _ _); k_dflt (refine' c_rect ?z528zcB ?z528zcF ?z528zcX ?z528zcN ?z528zcT ?z528zcK ?z528zcD ?z528zcU ?z528zp0 ?z528zp1 ?z528zp2 ?z528zp3 ?z528zp4 ?z528zp5 ?z528zp6 ?z528zp7 ?z528zp8 ?z528zp9 ?z528zp10 ?z528zp11 ?_; (case z528zcB => k_asm); (case z528zcF => k_asm); (case z528zcX => k_asm); (case z528zcN => k_asm); (case z528zcT => k_asm); (case z528zcK => first | exact rfl | assumption); (case z528zcD => walk_at "c dp"); (case z528zcU => walk_at "c un"); (case z528zp0 => k_mem); (case z528zp1 => k_mem); (case z528zp2 => k_mem); (case z528zp3 => assumption); (case z528zp11 => first | assumption | exact rfl); (case z528zp4 => k_mem); (case z528zp5 => with_reducible assumption); (case z528zp6 => with_reducible assumption); (case z528zp7 => with_reducible assumption); (case z528zp8 => with_reducible assumption); (case z528zp9 => with_reducible assumption); (case z528zp10 => with_reducible assumption); intro t' r1' e1' i1' j1' k1' l1' r2' e2' i2' j2' k2' l2' r3' e3' i3' j3' k3' l3' r4' e4' i4' j4' k4' l4' h' tk' F' N' hq1' hq2' hq3' hq4'; (try k_sweep); (try dsimp only); (try k_fold)))
  k_with "call ref" =>
    (k_here; (with_reducible show wpAny _ _ (call (Value.ref 335) [Value.ref _, Value.ref _, Value.ref _, Value.int _ _]) _ _ _); k_dflt (refine' c_amat ?z529zcB ?z529zcF ?z529zcX ?z529zcN ?z529zcT ?z529zcK ?z529zcD ?z529zcU ?z529zp0 ?z529zp1 ?z529zp2 ?z529zp3 ?z529zp4 ?z529zp5 ?z529zp6 ?z529zp7 ?z529zp8 ?z529zp9 ?z529zp10 ?z529zp11 ?z529zp12 ?z529zp13 ?z529zp14 ?z529zp15 ?z529zp16 ?z529zp17 ?z529zp18 ?z529zp19 ?z529zp20 ?z529zp21 ?z529zp22 ?z529zp23 ?z529zp24 ?z529zp25 ?z529zp26 ?z529zp27 ?z529zp28 ?z529zp29 ?z529zp30 ?z529zp31 ?z529zp32 ?z529zp33 ?z529zp34 ?z529zp35 ?z529zp36 ?z529zp37 ?z529zp38 ?z529zp39 ?z529zp40 ?z529zp41 ?z529zp42 ?z529zp43 ?z529zp44 ?z529zp45 ?z529zp46 ?z529zp47 ?z529zp48 ?z529zp49 ?z529zp50 ?z529zp51 ?_; (case z529zcB => k_asm); (case z529zcF => k_asm); (case z529zcX => k_asm); (case z529zcN => k_asm); (case z529zcT => k_asm); (case z529zcK => first | exact rfl | assumption); (case z529zcD => walk_at "c dp"); (case z529zcU => walk_at "c un"); (case z529zp12 => k_mem); (case z529zp45 => k_mem); (case z529zp0 => k_mem); (case z529zp1 => k_mem); (case z529zp2 => with_reducible assumption); (case z529zp3 => k_mem); (case z529zp4 => k_mem); (case z529zp5 => with_reducible assumption); (case z529zp6 => k_mem); (case z529zp7 => k_mem); (case z529zp8 => with_reducible assumption); (case z529zp9 => k_mem); (case z529zp10 => k_mem); (case z529zp11 => with_reducible assumption); (case z529zp13 => k_mem); (case z529zp14 => k_mem); (case z529zp15 => k_mem); (case z529zp16 => k_mem); (case z529zp17 => with_reducible assumption); (case z529zp18 => k_mem); (case z529zp19 => k_mem); (case z529zp20 => with_reducible assumption); (case z529zp21 => k_mem); (case z529zp22 => k_mem); (case z529zp23 => with_reducible assumption); (case z529zp24 => k_mem); (case z529zp25 => k_mem); (case z529zp26 => with_reducible assumption); (case z529zp27 => k_mem); (case z529zp28 => k_mem); (case z529zp29 => with_reducible assumption); (case z529zp30 => k_mem); (case z529zp31 => k_mem); (case z529zp32 => with_reducible assumption); (case z529zp33 => k_mem); (case z529zp34 => k_mem); (case z529zp35 => with_reducible assumption); (case z529zp36 => k_mem); (case z529zp37 => k_mem); (case z529zp38 => with_reducible assumption); (case z529zp39 => k_mem); (case z529zp40 => k_mem); (case z529zp41 => with_reducible assumption); (case z529zp42 => k_mem); (case z529zp43 => k_mem); (case z529zp44 => with_reducible assumption); (case z529zp46 => exact span_cast _ _ _ _ _ _ _); (case z529zp47 => exact span_cast _ _ _ _ _ _ _); (case z529zp48 => exact sub_cast _ _); (case z529zp49 => exact sub_cast _ _); (case z529zp50 => with_reducible assumption); (case z529zp51 => with_reducible assumption); intro x' d' k1' k2' k3' k4' k5' k6' a' da' ka1' ka2' ka3' ka4' b' db' kb1' kb2' kb3' kb4' c' dc' kc1' kc2' kc3' kc4' d' dd' kd1' kd2' kd3' kd4' e' de' ke1' ke2' ke3' ke4' f' df' kf1' kf2' kf3' kf4' h' tk' F' N' l1 hqa' hqb' hqc' hqd' hqe' hqf'; (try k_sweep); (try dsimp only); (try k_fold)))
  k_with "call ref" =>
    (k_here; (with_reducible show wpAny _ _ (call (Value.ref 502) [Value.ref _, Value.ref _]) _ _ _); k_dflt (refine' c_fm ?z530zcB ?z530zcF ?z530zcX ?z530zcN ?z530zcT ?z530zcK ?z530zcD ?z530zcU ?z530zp0 ?z530zp1 ?z530zp2 ?z530zp3 ?z530zp4 ?z530zp5 ?z530zp6 ?z530zp7 ?z530zp8 ?z530zp9 ?z530zp10 ?z530zp11 ?z530zp12 ?_; (case z530zcB => k_asm); (case z530zcF => k_asm); (case z530zcX => k_asm); (case z530zcN => k_asm); (case z530zcT => k_asm); (case z530zcK => first | exact rfl | assumption); (case z530zcD => walk_at "c dp"); (case z530zcU => walk_at "c un"); (case z530zp0 => k_mem); (case z530zp1 => k_mem); (case z530zp2 => k_mem); (case z530zp3 => k_mem); (case z530zp4 => k_mem); (case z530zp5 => assumption); (case z530zp6 => exact FormM.mono (by with_reducible assumption) (by walk_at "c sub")); (case z530zp7 => with_reducible assumption); (case z530zp8 => with_reducible assumption); (case z530zp9 => with_reducible assumption); (case z530zp10 => with_reducible assumption); (case z530zp11 => with_reducible assumption); (case z530zp12 => with_reducible assumption); intro x' d' k1' k2' k3' k4' k5' k6' a' da' ka1' ka2' ka3' ka4' b' db' kb1' kb2' kb3' kb4' c' dc' kc1' kc2' kc3' kc4' d' dd' kd1' kd2' kd3' kd4' e' de' ke1' ke2' ke3' ke4' f' df' kf1' kf2' kf3' kf4' h' tk' F' N' l1 hqa' hqb' hqc' hqd' hqe' hqf'; (try k_sweep); (try dsimp only); (try k_fold)))
  trivial

theorem c_ap_any (B : Below A₀ base outer h₀) (F : Fr h₀ L s.heap m) (X : (Mine.hd0.heap_1 w.params).In h₀) (N : News h₀ L s.heap news) (T : Top VW LS mean mg mb h₀) (hk : cs.kind = .function) (hd : dp + 20 < recursionLimit) (hu : un + 200 < cLine) {sh dsh tb tr : Addr} {ks1 ks2 : Tok} (hsh : (sh, instObj 473 dsh) ∈ news) (hdsh : (dsh, shelfObj w tb tr ks1 ks2) ∈ news) {d : Addr} {od : Obj} {kvd : List (PySem.Str × Value)} (hmd : (d, od) ∈ news) (hdd : DictIs w d od kvd) {e : Addr} {oe : Obj} {kve : List (PySem.Str × Value)} (hme : (e, oe) ∈ news) (hde : DictIs w e oe kve) {x dx hh : Addr} {oc : Value} {k1 k2 : Tok} (hx : (x, instObj 395 dx) ∈ news) (hdx : (dx, streamObj w hh oc k1 k2) ∈ news) {way : PySem.Str} {tw : Tok} (hv : valueAt kvd (PySem.Str.ofString "AP") = some (.ref e)) (hw : valueAt kve way = some (.ref x) ∨ valueAt kve way = none) (hn : valueAt kve (PySem.Str.ofString "N") = some (.ref x)) (ret : ∀ h' tk', Fr h₀ L h' m → News h₀ L h' news → Q (.ref x) { s with heap := h', toks := tk' }) : wpAny (model PySem.Challenge.rw_qz0079_01.row.prog w) (ktrTop dp un gd cn cs L a₀ ccd cl outer) (call (.ref 497) [.ref sh, .ref d, .str way tw]) Q E s := by
  rcases hw with hw | hw
  · exact c_ap_this B F X N T hk hd hu hsh hdsh hmd hdd hme hde hx hdx hv hw ret
  · exact c_ap_back B F X N T hk hd hu hsh hdsh hmd hdd hme hde hx hdx hv hw hn ret
theorem lines_C19_3 : True := by
  k_with "call ref" =>
    (k_here; (with_reducible show wpAny _ _ (call (Value.ref 497) [Value.ref _, Value.ref _, Value.str _ _]) _ _ _); k_dflt (refine' c_ap_any ?z531zcB ?z531zcF ?z531zcX ?z531zcN ?z531zcT ?z531zcK ?z531zcD ?z531zcU ?z531zp0 ?z531zp1 ?z531zp2 ?z531zp3 ?z531zp4 ?z531zp5 ?z531zp6 ?z531zp7 ?z531zp8 ?z531zp9 ?z531zp10 ?_; (case z531zcB => k_asm); (case z531zcF => k_asm); (case z531zcX => k_asm); (case z531zcN => k_asm); (case z531zcT => k_asm); (case z531zcK => first | exact rfl | assumption); (case z531zcD => walk_at "c dp"); (case z531zcU => walk_at "c un"); (case z531zp0 => k_mem); (case z531zp1 => k_mem); (case z531zp2 => k_mem); (case z531zp3 => assumption); (case z531zp8 => first | assumption | exact rfl); (case z531zp4 => k_mem); (case z531zp5 => assumption); (case z531zp10 => first | assumption | exact rfl); (case z531zp6 => k_mem); (case z531zp7 => k_mem); (case z531zp9 => first | assumption | (left; exact rfl) | (left; assumption)); intro h' tk' F' N'; (try k_sweep); (try dsimp only); (try k_fold)))
  trivial

theorem c_pl3 (B : Below A₀ base outer h₀) (F : Fr h₀ L s.heap m) (X : (Mine.hd0.heap_1 w.params).In h₀) (N : News h₀ L s.heap news) (T : Top VW LS mean mg mb h₀) (hk : cs.kind = .function) (hd : dp + 75 < recursionLimit) (hu : un + 750 < cLine) {sh dsh tb tr : Addr} {ks1 ks2 : Tok} (hsh : (sh, instObj 473 dsh) ∈ news) (hdsh : (dsh, shelfObj w tb tr ks1 ks2) ∈ news) {d : Addr} {od : Obj} {kvd : List (PySem.Str × Value)} (hmd : (d, od) ∈ news) (hdd : DictIs w d od kvd) {e : Addr} {oe : Obj} {kve : List (PySem.Str × Value)} (hme : (e, oe) ∈ news) (hde : DictIs w e oe kve) {x dx hh : Addr} {oc : Value} {k1 k2 : Tok} (hx : (x, instObj 395 dx) ∈ news) (hdx : (dx, streamObj w hh oc k1 k2) ∈ news) {ohh : Obj} {kvh : List (PySem.Str × Value)} (hmhh : (hh, ohh) ∈ news) (hdhh : DictIs w hh ohh kvh) {fa fb fc fd ta tb tc td : Int} {lf lt : Addr} {nf nt : Nat} {u1 u2 u3 u4 v1 v2 v3 v4 : Tok} (hlf : (lf, listOf #[.int fa u1, .int fb u2, .int fc u3, .int fd u4] nf) ∈ news) (hlt : (lt, listOf #[.int ta v1, .int tb v2, .int tc v3, .int td v4] nt) ∈ news) (hap : valueAt kvd (PySem.Str.ofString "AP") = some (.ref e)) (hre : valueAt kvd (PySem.Str.ofString "Rect") = some (.ref lt)) (hbb : valueAt kvh (PySem.Str.ofString "BBox") = some (.ref lf)) {ma mb mc md me mf : Int} (hM : FormM news kvh ma mb mc md me mf) (hF : Box4 fa fb fc fd) (hT : Box4 ta tb tc td) (hm6 : Mat6 ma mb mc md me mf) (gx : spanOf ma mc me fa fb fc fd = 0 ∨ Nice (spanOf ma mc me fa fb fc fd)) (gy : spanOf mb md mf fa fb fc fd = 0 ∨ Nice (spanOf mb md mf fa fb fc fd)) (hn : valueAt kve (PySem.Str.ofString "N") = some (.ref x)) {pl : Int} {tp : Tok} (ret : ∀ qa qb qc qd qe qf, IsAM fa fb fc fd ma mb mc md me mf ta tb tc td qa qb qc qd qe qf → RetMat w h₀ L m news s Q qa qb qc qd qe qf 213) : wpAny (model PySem.Challenge.rw_qz0079_01.row.prog w) (ktrTop dp un gd cn cs L a₀ ccd cl outer) (call (.ref 510) [.ref sh, .ref d, .int pl tp]) Q E s := by
  obtain ⟨bfa, bfb, bfc, bfd, hfac, hfbd⟩ := hF
  obtain ⟨bta, btb, btc, btd, htac, htbd⟩ := hT
  obtain ⟨bma, bmb, bmc, bmd, bme, bmf⟩ := hm6
  revert X; k_fill; intro X
  w_on
  refine wpAny_call ?_
  k_dflt (refine' code_def ?k1 ?k2 ?k3 ?k4 ?k5 ?kA ?kF ?kK ?k6 ?k7 ?k8 ?k9 ?kB ?_ ?c2 ?c3 ?c4 ?c5; (case kA => exact rfl); (case kF => exact rfl); (case kK => assumption); (case k1 => k_asm); (case k2 => k_asm); (case k3 => k_asm); (case k4 => k_asm); (case k5 => k_asm); (case k6 => k_is); (case k7 => k_is); (case k8 => ktr_room); (case k9 => exact binds_K (by k_in) rfl (by k_is) rfl rfl rfl); (case c5 => decide); (case kB => exact locs rfl); (case c2 => exact rfl); (case c3 => exact rfl); (case c4 => exact rfl); k_whole; intro g' L' h' FG' F' N' B' X' T'; (try dsimp only); (try k_fold))
  k_steps
  rename Fr h₀ L _ m => kF
  rename News h₀ L _ _ => kN
  refine ret _ _ _ _ _ _ ?am _ _ _ _ _ _ _ _ _ _ _ _ _ _ _ _ _ _ _ _ _ _ _ _ _ _ _ _ _ _ _ _ _ _ _ _ _ _ _ _ _ _ _ _ _ _ kF (cb_drop kN (by walk_at "c sub")) (fresh_sub (by with_reducible assumption) (by walk_at "c sub")) (by with_reducible assumption) (by with_reducible assumption) (by with_reducible assumption) (by with_reducible assumption) (by with_reducible assumption) (by with_reducible assumption)
  exact isAM_of rfl rfl rfl rfl rfl rfl rfl rfl (by rw [← low_cast]) (by rw [← low_cast])

theorem c_pl4 (B : Below A₀ base outer h₀) (F : Fr h₀ L s.heap m) (X : (Mine.hd0.heap_1 w.params).In h₀) (N : News h₀ L s.heap news) (T : Top VW LS mean mg mb h₀) (hk : cs.kind = .function) (hd : dp + 75 < recursionLimit) (hu : un + 750 < cLine) {sh dsh tb tr : Addr} {ks1 ks2 : Tok} (hsh : (sh, instObj 473 dsh) ∈ news) (hdsh : (dsh, shelfObj w tb tr ks1 ks2) ∈ news) {d : Addr} {od : Obj} {kvd : List (PySem.Str × Value)} (hmd : (d, od) ∈ news) (hdd : DictIs w d od kvd) {e : Addr} {oe : Obj} {kve : List (PySem.Str × Value)} (hme : (e, oe) ∈ news) (hde : DictIs w e oe kve) {x dx hh : Addr} {oc : Value} {k1 k2 : Tok} (hx : (x, instObj 395 dx) ∈ news) (hdx : (dx, streamObj w hh oc k1 k2) ∈ news) {ohh : Obj} {kvh : List (PySem.Str × Value)} (hmhh : (hh, ohh) ∈ news) (hdhh : DictIs w hh ohh kvh) {fa fb fc fd ta tb tc td : Int} {lf lt : Addr} {nf nt : Nat} {u1 u2 u3 u4 v1 v2 v3 v4 : Tok} (hlf : (lf, listOf #[.int fa u1, .int fb u2, .int fc u3, .int fd u4] nf) ∈ news) (hlt : (lt, listOf #[.int ta v1, .int tb v2, .int tc v3, .int td v4] nt) ∈ news) (hap : valueAt kvd (PySem.Str.ofString "AP") = some (.ref e)) (hre : valueAt kvd (PySem.Str.ofString "Rect") = some (.ref lt)) (hbb : valueAt kvh (PySem.Str.ofString "BBox") = some (.ref lf)) {ma mb mc md me mf : Int} (hM : FormM news kvh ma mb mc md me mf) (hF : Box4 fa fb fc fd) (hT : Box4 ta tb tc td) (hm6 : Mat6 ma mb mc md me mf) (gx : spanOf ma mc me fa fb fc fd = 0 ∨ Nice (spanOf ma mc me fa fb fc fd)) (gy : spanOf mb md mf fa fb fc fd = 0 ∨ Nice (spanOf mb md mf fa fb fc fd)) {way : PySem.Str} {tw : Tok} (hw : valueAt kve way = some (.ref x) ∨ valueAt kve way = none) (hn : valueAt kve (PySem.Str.ofString "N") = some (.ref x)) {pl : Int} {tp : Tok} (ret : ∀ qa qb qc qd qe qf, IsAM fa fb fc fd ma mb mc md me mf ta tb tc td qa qb qc qd qe qf → RetMat w h₀ L m news s Q qa qb qc qd qe qf 213) : wpAny (model PySem.Challenge.rw_qz0079_01.row.prog w) (ktrTop dp un gd cn cs L a₀ ccd cl outer) (call (.ref 510) [.ref sh, .ref d, .int pl tp, .str way tw]) Q E s := by
  obtain ⟨bfa, bfb, bfc, bfd, hfac, hfbd⟩ := hF
  obtain ⟨bta, btb, btc, btd, htac, htbd⟩ := hT
  obtain ⟨bma, bmb, bmc, bmd, bme, bmf⟩ := hm6
  revert X; k_fill; intro X
  w_on
  refine wpAny_call ?_
  k_dflt (refine' code_def ?k1 ?k2 ?k3 ?k4 ?k5 ?kA ?kF ?kK ?k6 ?k7 ?k8 ?k9 ?kB ?_ ?c2 ?c3 ?c4 ?c5; (case kA => exact rfl); (case kF => exact rfl); (case kK => assumption); (case k1 => k_asm); (case k2 => k_asm); (case k3 => k_asm); (case k4 => k_asm); (case k5 => k_asm); (case k6 => k_is); (case k7 => k_is); (case k8 => ktr_room); (case k9 => exact binds_K (by k_in) rfl (by k_is) rfl rfl rfl); (case c5 => decide); (case kB => exact locs rfl); (case c2 => exact rfl); (case c3 => exact rfl); (case c4 => exact rfl); k_whole; intro g' L' h' FG' F' N' B' X' T'; (try dsimp only); (try k_fold))
  k_steps
  rename Fr h₀ L _ m => kF
  rename News h₀ L _ _ => kN
  refine ret _ _ _ _ _ _ ?am _ _ _ _ _ _ _ _ _ _ _ _ _ _ _ _ _ _ _ _ _ _ _ _ _ _ _ _ _ _ _ _ _ _ _ _ _ _ _ _ _ _ _ _ _ _ kF (cb_drop kN (by walk_at "c sub")) (fresh_sub (by with_reducible assumption) (by walk_at "c sub")) (by with_reducible assumption) (by with_reducible assumption) (by with_reducible assumption) (by with_reducible assumption) (by with_reducible assumption) (by with_reducible assumption)
  exact isAM_of rfl rfl rfl rfl rfl rfl rfl rfl (by rw [← low_cast]) (by rw [← low_cast])

theorem lines_C19_4 : True := by
  k_with "call ref" =>
    (k_here; (with_reducible show wpAny _ _ (call (Value.ref 497) [Value.ref _, Value.ref _, Value.str _ _]) _ _ _); k_dflt (refine' c_ap_none ?z532zcB ?z532zcF ?z532zcX ?z532zcN ?z532zcT ?z532zcK ?z532zcD ?z532zcU ?z532zp0 ?z532zp1 ?z532zp2 ?z532zp3 ?z532zp4 ?_; (case z532zcB => k_asm); (case z532zcF => k_asm); (case z532zcX => k_asm); (case z532zcN => k_asm); (case z532zcT => k_asm); (case z532zcK => first | exact rfl | assumption); (case z532zcD => walk_at "c dp"); (case z532zcU => walk_at "c un"); (case z532zp0 => k_mem); (case z532zp1 => k_mem); (case z532zp2 => k_mem); (case z532zp3 => assumption); (case z532zp4 => first | assumption | exact rfl); intro h' tk' F' N'; (try k_sweep); (try dsimp only); (try k_fold)))
  trivial

theorem c_pln (B : Below A₀ base outer h₀) (F : Fr h₀ L s.heap m) (X : (Mine.hd0.heap_1 w.params).In h₀) (N : News h₀ L s.heap news) (T : Top VW LS mean mg mb h₀) (hk : cs.kind = .function) (hd : dp + 30 < recursionLimit) (hu : un + 300 < cLine) {sh dsh tb tr : Addr} {ks1 ks2 : Tok} (hsh : (sh, instObj 473 dsh) ∈ news) (hdsh : (dsh, shelfObj w tb tr ks1 ks2) ∈ news) {d : Addr} {od : Obj} {kvd : List (PySem.Str × Value)} (hmd : (d, od) ∈ news) (hdd : DictIs w d od kvd) (hap : valueAt kvd (PySem.Str.ofString "AP") = none) {pl : Int} {tp : Tok} (ret : ∀ h' tk', Fr h₀ L h' m → News h₀ L h' news → Q (.none) { s with heap := h', toks := tk' }) : wpAny (model PySem.Challenge.rw_qz0079_01.row.prog w) (ktrTop dp un gd cn cs L a₀ ccd cl outer) (call (.ref 510) [.ref sh, .ref d, .int pl tp]) Q E s := by
  revert X; k_fill; intro X
  w_on
  refine wpAny_call ?_
  k_dflt (refine' code_def ?k1 ?k2 ?k3 ?k4 ?k5 ?kA ?kF ?kK ?k6 ?k7 ?k8 ?k9 ?kB ?_ ?c2 ?c3 ?c4 ?c5; (case kA => exact rfl); (case kF => exact rfl); (case kK => assumption); (case k1 => k_asm); (case k2 => k_asm); (case k3 => k_asm); (case k4 => k_asm); (case k5 => k_asm); (case k6 => k_is); (case k7 => k_is); (case k8 => ktr_room); (case k9 => exact binds_K (by k_in) rfl (by k_is) rfl rfl rfl); (case c5 => decide); (case kB => exact locs rfl); (case c2 => exact rfl); (case c3 => exact rfl); (case c4 => exact rfl); k_whole; intro g' L' h' FG' F' N' B' X' T'; (try dsimp only); (try k_fold))
  k_steps
  rename Fr h₀ L _ m => kF
  rename News h₀ L _ _ => kN
  exact ret _ _ kF (cb_drop kN (by walk_at "c sub"))

end
end PartC19
section PartC29
/-- the pen that the law draws by -/
abbrev penObj (c : Addr) (sp : Int) (t1 : Tok) (re : Int) (t2 : Tok) (n : Nat) : Obj := listOf #[.ref c, .int sp t1, .int re t2] n
/-- the ledger but for the pen -/
inductive PenOut (p : Addr) (P : Obj) : List (Addr × Obj) → List (Addr × Obj) → Prop
  | done {l : List (Addr × Obj)} (h : ∀ q ∈ l, q.1 ≠ p) : PenOut p P ((p, P) :: l) l
  | take {a : Addr} {o : Obj} {l out : List (Addr × Obj)} (h : @Ne Nat a p) (r : PenOut p P l out) : PenOut p P ((a, o) :: l) ((a, o) :: out)
theorem PenOut.sub {p : Addr} {P : Obj} {l out : List (Addr × Obj)} (h : PenOut p P l out) : ∀ q ∈ (p, P) :: out, q ∈ l := by
  induction h with
  | done _ => exact fun _ h => h
  | take _ _ ih =>
    intro q hq
    rcases List.mem_cons.mp hq with rfl | hq
    · exact List.mem_cons_of_mem _ (ih _ List.mem_cons_self)
    rcases List.mem_cons.mp hq with rfl | hq
    · exact List.mem_cons_self
    · exact List.mem_cons_of_mem _ (ih _ (List.mem_cons_of_mem _ hq))
theorem PenOut.off {p : Addr} {P : Obj} {l out : List (Addr × Obj)} (h : PenOut p P l out) : ∀ q ∈ out, q.1 ≠ p := by
  induction h with
  | done h => exact h
  | take h1 _ ih =>
    intro q hq
    rcases List.mem_cons.mp hq with rfl | hq
    · exact h1
    · exact ih q hq
theorem c_set {prog : Program} {w : World} {A : Around} {E : Value → Shared → Prop} {s : Shared} {h₀ : Heap} {L D : Addr} {m : PySem.Str → Option Value} {news news' : List (Addr × Obj)} {its its' : Array Value} {n : Nat} {k : Int} {t : Tok} {v : Value} {Q : Unit → Shared → Prop}
    (F : Fr h₀ L s.heap m) (N : News h₀ L s.heap news) (e : its.setIfInBounds k.toNat v = its') (U : Upd D (listOf its n) (listOf its' n) news news') (h0 : 0 ≤ k) (h1 : k < its.size) (hfit : k < 2 ^ 63)
    (h : ∀ h', Fr h₀ L h' m → News h₀ L h' news' → Q () { s with heap := h' }) : wpAny (model prog w) A (setItem (.ref D) (.int k t) v) Q E s := by
  obtain ⟨pre, post, rfl, rfl, a, b⟩ := U.split
  have z := N (D, listOf its n) (List.mem_append.mpr (.inr (.head _)))
  refine ki_setAt z.1 h0 hfit h1 (h _ (F.change (Heap.SameBut.update ..) z.2.1 z.2.2) (ki_turn _ N a b e ?_))
  have e2 : its'.size = its.size := by rw [← e]; simp
  rw [e2]; simp
theorem c_set1 {prog : Program} {w : World} {A : Around} {E : Value → Shared → Prop} {s : Shared} {h₀ : Heap} {L D c : Addr} {m : PySem.Str → Option Value} {news news' : List (Addr × Obj)} {n : Nat} {sp re v : Int} {t1 t2 tv t : Tok} {Q : Unit → Shared → Prop}
    (F : Fr h₀ L s.heap m) (N : News h₀ L s.heap news) (U : Upd D (penObj c sp t1 re t2 n) (penObj c v tv re t2 n) news news')
    (h : ∀ h', Fr h₀ L h' m → News h₀ L h' news' → Q () { s with heap := h' }) : wpAny (model prog w) A (setItem (.ref D) (.int 1 t) (.int v tv)) Q E s :=
  c_set F N rfl U (by decide) (by show (1 : Int) < 3; decide) (by decide) h
theorem c_set2 {prog : Program} {w : World} {A : Around} {E : Value → Shared → Prop} {s : Shared} {h₀ : Heap} {L D c : Addr} {m : PySem.Str → Option Value} {news news' : List (Addr × Obj)} {n : Nat} {sp re v : Int} {t1 t2 tv t : Tok} {Q : Unit → Shared → Prop}
    (F : Fr h₀ L s.heap m) (N : News h₀ L s.heap news) (U : Upd D (penObj c sp t1 re t2 n) (penObj c sp t1 v tv n) news news')
    (h : ∀ h', Fr h₀ L h' m → News h₀ L h' news' → Q () { s with heap := h' }) : wpAny (model prog w) A (setItem (.ref D) (.int 2 t) (.int v tv)) Q E s :=
  c_set F N rfl U (by decide) (by show (2 : Int) < 3; decide) (by decide) h
theorem c_len {prog : Program} {w : World} {A : Around} {E : Value → Shared → Prop} {s : Shared} {h₀ : Heap} {L l : Addr} {news : List (Addr × Obj)} {n : Nat} {ys : List Value} {ns : List Int} {Q : Value → Shared → Prop}
    (N : News h₀ L s.heap news) (hm : (l, listOf ys.toArray n) ∈ news) (hi : IntsAre ys ns) (hn : ns.length ≤ 63) (h : ∀ t tk, Q (.int (ns.length : Int) t) { s with toks := tk }) : wpAny (model prog w) A (call (.builtin "len") [.ref l]) Q E s := by
  have e : ys.toArray.size = ns.length := by rw [List.size_toArray, hi.length]
  refine call_len_list (News.isList N hm) (by rw [e]; omega) ?_
  rw [e]
  exact h _ _
theorem pen_idx {ns : List Int} {sp : Int} (h : ns ≠ []) : 0 ≤ sp.fmod (ns.length : Int) ∧ sp.fmod (ns.length : Int) < (ns.length : Int) := by
  have : 0 < ns.length := List.length_pos_iff.mpr h
  exact ⟨Int.fmod_nonneg_of_pos _ (by omega), Int.fmod_lt_of_pos _ (by omega)⟩
theorem c_cell {prog : Program} {w : World} {A : Around} {E : Value → Shared → Prop} {s : Shared} {h₀ : Heap} {L l : Addr} {news : List (Addr × Obj)} {value slice : PySem.Expr} {n : Nat} {ys : List Value} {ns : List Int} {sp : Int} {u : Tok} {Q : Value → Shared → Prop}
    (N : News h₀ L s.heap news) (hm : (l, listOf ys.toArray n) ∈ news) (hi : IntsAre ys ns) (hn : ns.length ≤ 63) (hne : ns ≠ []) (h : ∀ i t, Q (.int i t) s)
    (hs : subscripted slice false (.ref l) (.int (sp.fmod (ns.length : Int)) u) = operate [.ref l, .int (sp.fmod (ns.length : Int)) u] (getItem (.ref l) (.int (sp.fmod (ns.length : Int)) u)) := by with_unfolding_all rfl) :
    wpAny (model prog w) A (subscriptTail value slice (.ref l) (.int (sp.fmod (ns.length : Int)) u)) Q E s :=
  ksa_sub N hm hi (pen_idx hne).1 (pen_idx hne).2 (Int.lt_trans (pen_idx hne).2 (by omega)) (fun t => h _ t) hs
theorem fm_lt {x : Int} {b : Int} (hb : 0 < b) : 0 ≤ x.fmod b ∧ x.fmod b < b := ⟨Int.fmod_nonneg_of_pos _ hb, Int.fmod_lt_of_pos _ hb⟩
theorem st1 {c sp : Int} (h0 : 0 ≤ sp) (h9 : sp ≤ 100) : (c.fmod 2147483587 + 20947 * sp + 3571).natAbs < 2 ^ 64 := by
  have h := fm_lt (x := c) (b := 2147483587) (by decide)
  generalize c.fmod 2147483587 = y at *
  omega
theorem st2 {x sp : Int} (h0 : 0 ≤ sp) (h9 : sp ≤ 100) : (x.fmod 2147483629 * (2 * sp + 7207) + 20947 * sp * sp + 31).natAbs < 2 ^ 64 := by
  have h := fm_lt (x := x) (b := 2147483629) (by decide)
  generalize x.fmod 2147483629 = y at *
  have h1 : 0 ≤ y * (2 * sp + 7207) := Int.mul_nonneg h.1 (by omega)
  have h2 : y * (2 * sp + 7207) ≤ 2147483629 * 7407 := Int.mul_le_mul (by omega) (by omega) (by omega) (by decide)
  have h3 : 0 ≤ 20947 * sp * sp := Int.mul_nonneg (by omega) h0
  have h4 : 20947 * sp * sp ≤ 2094700 * 100 := Int.mul_le_mul (by omega) h9 h0 (by decide)
  generalize y * (2 * sp + 7207) = z at *
  generalize 20947 * sp * sp = v at *
  omega
theorem st3 {x b : Int} (hb : b = 2147483629) (y : Int) : IntMulOk (x.fmod b) y := by
  subst hb
  have h := fm_lt (x := x) (b := 2147483629) (by decide)
  refine IntMulOk.of_left (intBits_le_iff.mpr ?_)
  generalize x.fmod 2147483629 = y at *
  omega
theorem st4 {sp y k : Int} (hk : k = 20947) (h0 : 0 ≤ sp) (h9 : sp ≤ 100) : IntMulOk (k * sp) y := by
  subst hk
  refine IntMulOk.of_left (intBits_le_iff.mpr ?_)
  omega
theorem lines_C29_1 : True := by
  k_with_none
  k_with "c mem" =>
    first | ((with_reducible refine' mem_here ?z533zh9); (case z533zh9 => exact rfl)) | ((with_reducible refine' mem_nth 1 ?z533zh9); (case z533zh9 => exact rfl)) | ((with_reducible refine' mem_nth 2 ?z533zh9); (case z533zh9 => exact rfl)) | ((with_reducible refine' mem_nth 3 ?z533zh9); (case z533zh9 => exact rfl)) | ((with_reducible refine' mem_nth 4 ?z533zh9); (case z533zh9 => exact rfl)) | ((with_reducible refine' mem_nth 5 ?z533zh9); (case z533zh9 => exact rfl)) | ((with_reducible refine' mem_nth 6 ?z533zh9); (case z533zh9 => exact rfl)) | ((with_reducible refine' mem_nth 7 ?z533zh9); (case z533zh9 => exact rfl)) | ((with_reducible refine' mem_nth 8 ?z533zh9); (case z533zh9 => exact rfl)) | ((with_reducible refine' mem_nth 9 ?z533zh9); (case z533zh9 => exact rfl)) | ((with_reducible refine' mem_skip ?_); walk_at "c mem") | (with_reducible exact List.mem_append_left _ (by with_reducible assumption)) | ktr_member | ((with_reducible refine' List.mem_cons_of_mem _ ?_); walk_at "c mem") | ((with_reducible refine' List.mem_append_right _ ?_); walk_at "c mem")
  k_with "c room" =>
    with_reducible first | assumption | exact room1 (by assumption) rfl | exact room2 (by assumption) rfl | exact room3 (by assumption) rfl | exact room4 (by assumption) rfl
  k_with "c le" =>
    with_reducible first | assumption | exact Nat.le_trans (by assumption) (by decide)
  k_with "c lt1" =>
    with_reducible first | assumption | exact cj0 | exact cj1 | exact cj2 | exact cj3 | exact cj4 | exact cj5 | exact cj6 | exact cj7 | exact cj8 | exact cj9 | exact cj10 | exact cj11 | exact cj12 | exact cj13 | exact cj14 | exact cj15 | exact cj16 | exact cj17 | exact cj18 | exact cj19 | exact cj20 | exact cj21 | exact cj22 | exact cj23 | exact And.right (by with_reducible assumption) | exact And.right (And.right (by with_reducible assumption)) | exact And.right (And.right (And.right (by with_reducible assumption))) | exact And.right (And.right (And.right (And.right (by with_reducible assumption))))
  k_with "c lt2" =>
    ((with_reducible refine' Nat.lt_trans ?z537za9 ?z537zb9); (case z537zb9 => with_reducible assumption); (case z537za9 => walk_at "c lt1"))
  k_with "c lt" =>
    first | walk_at "c lt1" | walk_at "c lt2"
  k_with "c up3" =>
    with_reducible first | exact abv3 (by assumption) | exact abv3_1 (by assumption) | exact abv3_2 (by assumption) | exact abv3_3 (by assumption) | exact abv3_4 (by assumption) | (refine' Abv3.tr ?z539za9 ?z539zb9; (case z539za9 => assumption); (case z539zb9 => walk_at "c up3"))
  k_with "c ne" =>
    first | with_reducible (first | assumption | exact And.left (by assumption) | exact Ne.symm (And.left (by assumption)) | exact And.left (And.right (by assumption)) | exact Ne.symm (And.left (And.right (by assumption))) | exact And.right (And.right (by assumption)) | exact Ne.symm (And.right (And.right (by assumption))) | exact neq_lt (by assumption) | exact neq_gt (by assumption) | exact nl0 | exact nr0 | exact nl1 | exact nr1 | exact nl2 | exact nr2 | exact nl3 | exact nr3 | exact nl4 | exact nr4 | exact nl5 | exact nr5 | exact nl6 | exact nr6 | exact nl7 | exact nr7 | exact nl8 | exact nr8 | exact nl9 | exact nr9 | exact nl10 | exact nr10 | exact nl11 | exact nr11 | exact nl12 | exact nr12 | exact nl13 | exact nr13 | exact nl14 | exact nr14 | exact nl15 | exact nr15 | exact nl16 | exact nr16 | exact nl17 | exact nr17 | exact nl18 | exact nr18 | exact nl19 | exact nr19 | exact nl20 | exact nr20 | exact nl21 | exact nr21 | exact nl22 | exact nr22 | exact nl23 | exact nr23) | ((with_reducible refine' neq_lt ?z540zz9); (case z540zz9 => walk_at "c lt2")) | ((with_reducible refine' neq_gt ?z540zz9); (case z540zz9 => walk_at "c lt2")) | ((try dsimp only); omega)
  k_with "c dp" =>
    ((try simp only [depth_under_make, depth_under_kw, depth_in1, depth_deeper, depth_caller]); (try dsimp only [ktrTop]); first | walk_at "c room" | omega | decide)
  k_with "c un" =>
    ((try simp only [units_make, units_in1, units_deeper, Around.mark_units, units_caller]); (try dsimp only [ktrTop]); first | walk_at "c room" | omega | decide)
  k_with "c sub" =>
    first | (refine List.forall_mem_cons.mpr ⟨?z543za, ?z543zb⟩; (case z543za => walk_at "c mem"); (case z543zb => walk_at "c sub")) | exact List.forall_mem_nil _ | (intro p9 h9; (repeat (first | exact h9 | refine List.mem_cons_of_mem _ ?_ | refine List.mem_append_left _ ?_)))
  k_with "c bnd" =>
    with_reducible (first | assumption | exact Bnd.pow _ | (refine' Bnd.fdiv ?z544za; (case z544za => walk_at "c bnd")) | (exact Bnd.mul (by walk_at "c bnd") (by walk_at "c bnd")) | (exact Bnd.add1 (by walk_at "c bnd") (by walk_at "c bnd")) | (exact Bnd.sub1 (by walk_at "c bnd") (by walk_at "c bnd")) | (exact Bnd.add (by walk_at "c bnd") (by walk_at "c bnd")) | (exact Bnd.sub (by walk_at "c bnd") (by walk_at "c bnd")))
  k_with "c ar" =>
    first | assumption | decide | omega | (split <;> omega)
  k_with "c mul" =>
    exact mulOk_bnd (by walk_at "c bnd") (by walk_at "c bnd") (by walk_at "c ar") (by walk_at "c ar")
  k_with "binaryOp Pow int int" =>
    ((with_reducible refine pow_int_small ?z547zkb1 ?z547zkb2 ?z547zkb3 ?_); (case z547zkb1 => walk_at "c ar"); (case z547zkb2 => walk_at "c ar"); (case z547zkb3 => decide))
  k_with "call ref" =>
    (k_here; (with_reducible show wpAny _ _ (call (Prod.fst _) (_ ++ _)) _ _ _); dsimp only [List.nil_append, List.cons_append])
  k_with "subscriptTail" =>
    (k_here; (with_reducible show wpAny _ _ (subscriptTail _ _ (Value.ref _) (Value.int _ _)) _ _ _); k_dflt (first
    | (refine' item_tupleT ?z549zt ?z549za ?z549zb ?z549zc ?z549zd ?_; (case z549zt => exact News.isTup (by k_asm) (by k_mem)); (case z549za => decide); (case z549zb => decide); (case z549zc => exact rfl); (case z549zd => exact rfl); k_whole)
    | (refine' c_item ?z549zN ?z549zm ?z549za ?z549zb ?z549zc ?_ ?z549zz; (case z549zN => k_asm); (case z549zm => k_mem); (case z549za => decide); (case z549zb => decide); (case z549zc => exact rfl); (case z549zz => with_unfolding_all rfl); k_whole)))
  k_with "subscriptTail Name Constant ref int" =>
    (k_here; (with_reducible show wpAny _ _ (subscriptTail _ _ (Value.ref _) (Value.int _ _)) _ _ _); k_dflt (first
    | (refine' item_tupleT ?z550zt ?z550za ?z550zb ?z550zc ?z550zd ?_; (case z550zt => exact News.isTup (by k_asm) (by k_mem)); (case z550za => decide); (case z550zb => decide); (case z550zc => exact rfl); (case z550zd => exact rfl); k_whole)
    | (refine' c_item ?z550zN ?z550zm ?z550za ?z550zb ?z550zc ?_ ?z550zz; (case z550zN => k_asm); (case z550zm => k_mem); (case z550za => decide); (case z550zb => decide); (case z550zc => exact rfl); (case z550zz => with_unfolding_all rfl); k_whole)))
  trivial
section
variable {w : World} {mean : ExcName → Option Value} {mg mb : PySem.Str → Option Value} {dp un : Nat} {gd : Option (List Code)} {cn : PySem.Str} {cs : Scope} {a₀ : Addr} {ccd : Value} {cl : List (PySem.Str × Addr)} {outer : List Env}
  {A₀ : Around} {base h₀ : Heap} {L : Addr} {m : PySem.Str → Option Value} {s : Shared} {news : List (Addr × Obj)} {Q : Flow → Shared → Prop} {E : Value → Shared → Prop} {Lf : Addr}
theorem lines_C29_2 : True := by
  k_with "subscriptTail Name Constant ref int" =>
    (k_here; (with_reducible show wpAny _ _ (subscriptTail _ _ (Value.ref _) (Value.int _ _)) _ _ _); k_dflt (refine' c_item ?z551zN ?z551zm ?z551za ?z551zb ?z551zc ?_ ?z551zz; (case z551zN => k_asm); (case z551zm => k_mem); (case z551za => decide); (case z551zb => decide); (case z551zc => exact rfl); (case z551zz => with_unfolding_all rfl); k_whole))
  k_with "compareOp NotEq ref ref" =>
    (k_here; k_dflt (refine' ke_ne_ints ?z552za ?z552zb ?z552zi IntsAre.nil ?z552zu ?_; (case z552za => exact News.isList (by k_asm) (by k_mem)); (case z552zb => exact News.isList (by k_asm) (by k_mem)); (case z552zi => l_ints); (case z552zu => walk_at "c un")))
  k_with "call builtin:len cons nil" =>
    (k_here; (with_reducible show wpAny _ _ (call (Value.builtin _) [Value.ref _]) _ _ _); k_dflt (refine' c_len ?z553zN ?z553zm ?z553zi ?z553za ?_; (case z553zN => k_asm); (case z553zm => k_mem); (case z553zi => assumption); (case z553za => assumption)); intro _ _)
  k_with "subscriptTail Subscript" =>
    (k_here; (with_reducible show wpAny _ _ (subscriptTail _ _ (Value.ref _) (Value.int _ _)) _ _ _); k_dflt (refine' c_cell ?z554zN ?z554zm ?z554zi ?z554za ?z554zb ?_ ?z554zz; (case z554zN => k_asm); (case z554zm => k_mem); (case z554zi => assumption); (case z554za => assumption); (case z554zb => first | assumption | simpa using (by assumption)); (case z554zz => with_unfolding_all rfl); k_whole); intro _ _)
  k_with "c mul" =>
    first | exact IntMulOk.of_left (by decide) | exact st3 rfl _ | exact st4 rfl (by assumption) (by assumption)
  k_with "binaryOp Pow int int" =>
    ((with_reducible refine pow_int_small ?z556zkb1 ?z556zkb2 ?z556zkb3 ?_); (case z556zkb1 => decide); (case z556zkb2 => decide); (case z556zkb3 => first | decide | exact st1 (by assumption) (by assumption) | exact st2 (by assumption) (by assumption)))
  k_with "eval Name" =>
    (k_here; k_dflt (refine' nameX_L ?z557zF ?z557zv ?_ ?z557za ?z557zb; (case z557zF => k_asm); (case z557za => exact rfl); (case z557zb => exact rfl); (case z557zv => first | exact rfl | assumption); k_whole))
  trivial

noncomputable def drawStmt : Stmt := (PySem.Challenge.rw_qz0079_01.row.prog.main.body.drop 44).headD (Stmt.Pass default)
noncomputable def drawBody : List Stmt := match drawStmt with
  | .FunctionDef _ _ b _ _ _ _ _ _ _ => b
  | _ => []
noncomputable def drawScope : Scope := match drawStmt with
  | .FunctionDef _ _ _ _ _ _ sc _ _ _ => sc
  | _ => default
theorem c_drawT (B : Below (ktrTop dp un gd cn cs L a₀ ccd cl outer) base (envX cn cs L a₀ ccd cl :: outer) h₀) (F : Fr h₀ Lf s.heap m) (X : (Mine.hd0.heap_1 w.params).In h₀) (N : News h₀ Lf s.heap news) (T : Top VW LS mean mg mb h₀) (hk : cs.kind = .function) (hd : dp + 12 < recursionLimit) (hu : un + 120 < cLine)
    {bd9 : List Stmt} {sc9 : Scope} (hb9 : bd9 = drawBody.drop 6) (hs9 : sc9 = drawScope) {sp cell many : Int} {t1 t2 tm : Tok} (m_spot : m (PySem.Str.ofString "spot") = some (.int sp t1)) (m_cell : m (PySem.Str.ofString "cell") = some (.int cell t2)) (m_many : m (PySem.Str.ofString "many") = some (.int many tm)) (h0 : 0 ≤ sp) (h9 : sp ≤ 100) (m1 : 1 ≤ many) (m2 : many ≤ 100)
    (ret : ∀ k t m' h' tk', Fr h₀ Lf h' m' → News h₀ Lf h' news → 0 ≤ k → k < many → Q (.ret (.int k t)) { s with heap := h', toks := tk' }) :
    wpAny (model PySem.Challenge.rw_qz0079_01.row.prog w) ((ktrTop dp un gd cn cs L a₀ ccd cl outer).deeper (envOf (PySem.Str.ofString "_law_draw") sc9 Lf 522 (.ref 521))) (execs bd9 (envOf (PySem.Str.ofString "_law_draw") sc9 Lf 522 (.ref 521))) Q E s := by
  subst hb9 hs9
  conv in List.drop _ drawBody => whnf
  conv in (occs := *) drawScope => whnf
  revert X; k_fill; intro X
  w_on
  (try k_fold)
  k_steps
  all_goals (
    rename Fr h₀ Lf _ _ => kF
    rename News h₀ Lf _ _ => kN
    exact ret _ _ _ _ _ kF kN (fm_lt (by omega)).1 (fm_lt (by omega)).2)
end
end PartC29
section PartC20
theorem lines_C20_1 : True := by
  k_with_none
  k_with "c mem" =>
    first | ((with_reducible refine' mem_here ?z558zh9); (case z558zh9 => exact rfl)) | ((with_reducible refine' mem_nth 1 ?z558zh9); (case z558zh9 => exact rfl)) | ((with_reducible refine' mem_nth 2 ?z558zh9); (case z558zh9 => exact rfl)) | ((with_reducible refine' mem_nth 3 ?z558zh9); (case z558zh9 => exact rfl)) | ((with_reducible refine' mem_nth 4 ?z558zh9); (case z558zh9 => exact rfl)) | ((with_reducible refine' mem_nth 5 ?z558zh9); (case z558zh9 => exact rfl)) | ((with_reducible refine' mem_nth 6 ?z558zh9); (case z558zh9 => exact rfl)) | ((with_reducible refine' mem_nth 7 ?z558zh9); (case z558zh9 => exact rfl)) | ((with_reducible refine' mem_nth 8 ?z558zh9); (case z558zh9 => exact rfl)) | ((with_reducible refine' mem_nth 9 ?z558zh9); (case z558zh9 => exact rfl)) | ((with_reducible refine' mem_skip ?_); walk_at "c mem") | (with_reducible exact List.mem_append_left _ (by with_reducible assumption)) | ktr_member | ((with_reducible refine' List.mem_cons_of_mem _ ?_); walk_at "c mem") | ((with_reducible refine' List.mem_append_right _ ?_); walk_at "c mem")
  k_with "c room" =>
    with_reducible first | assumption | exact room1 (by assumption) rfl | exact room2 (by assumption) rfl | exact room3 (by assumption) rfl | exact room4 (by assumption) rfl
  k_with "c le" =>
    with_reducible first | assumption | exact Nat.le_trans (by assumption) (by decide)
  k_with "c lt1" =>
    with_reducible first | assumption | exact cj0 | exact cj1 | exact cj2 | exact cj3 | exact cj4 | exact cj5 | exact cj6 | exact cj7 | exact cj8 | exact cj9 | exact cj10 | exact cj11 | exact cj12 | exact cj13 | exact cj14 | exact cj15 | exact cj16 | exact cj17 | exact cj18 | exact cj19 | exact cj20 | exact cj21 | exact cj22 | exact cj23 | exact And.right (by with_reducible assumption) | exact And.right (And.right (by with_reducible assumption)) | exact And.right (And.right (And.right (by with_reducible assumption))) | exact And.right (And.right (And.right (And.right (by with_reducible assumption))))
  k_with "c lt2" =>
    ((with_reducible refine' Nat.lt_trans ?z562za9 ?z562zb9); (case z562zb9 => with_reducible assumption); (case z562za9 => walk_at "c lt1"))
  k_with "c lt" =>
    first | walk_at "c lt1" | walk_at "c lt2"
  k_with "c up3" =>
    with_reducible first | exact abv3 (by assumption) | exact abv3_1 (by assumption) | exact abv3_2 (by assumption) | exact abv3_3 (by assumption) | exact abv3_4 (by assumption) | (refine' Abv3.tr ?z564za9 ?z564zb9; (case z564za9 => assumption); (case z564zb9 => walk_at "c up3"))
  k_with "c ne" =>
    first | with_reducible (first | assumption | exact And.left (by assumption) | exact Ne.symm (And.left (by assumption)) | exact And.left (And.right (by assumption)) | exact Ne.symm (And.left (And.right (by assumption))) | exact And.right (And.right (by assumption)) | exact Ne.symm (And.right (And.right (by assumption))) | exact neq_lt (by assumption) | exact neq_gt (by assumption) | exact nl0 | exact nr0 | exact nl1 | exact nr1 | exact nl2 | exact nr2 | exact nl3 | exact nr3 | exact nl4 | exact nr4 | exact nl5 | exact nr5 | exact nl6 | exact nr6 | exact nl7 | exact nr7 | exact nl8 | exact nr8 | exact nl9 | exact nr9 | exact nl10 | exact nr10 | exact nl11 | exact nr11 | exact nl12 | exact nr12 | exact nl13 | exact nr13 | exact nl14 | exact nr14 | exact nl15 | exact nr15 | exact nl16 | exact nr16 | exact nl17 | exact nr17 | exact nl18 | exact nr18 | exact nl19 | exact nr19 | exact nl20 | exact nr20 | exact nl21 | exact nr21 | exact nl22 | exact nr22 | exact nl23 | exact nr23) | ((with_reducible refine' neq_lt ?z565zz9); (case z565zz9 => walk_at "c lt2")) | ((with_reducible refine' neq_gt ?z565zz9); (case z565zz9 => walk_at "c lt2")) | ((try dsimp only); omega)
  k_with "c dp" =>
    ((try simp only [depth_under_make, depth_under_kw, depth_in1, depth_deeper, depth_caller]); (try dsimp only [ktrTop]); first | walk_at "c room" | omega | decide)
  k_with "c un" =>
    ((try simp only [units_make, units_in1, units_deeper, Around.mark_units, units_caller]); (try dsimp only [ktrTop]); first | walk_at "c room" | omega | decide)
  k_with "c sub" =>
    first | (refine List.forall_mem_cons.mpr ⟨?z568za, ?z568zb⟩; (case z568za => walk_at "c mem"); (case z568zb => walk_at "c sub")) | exact List.forall_mem_nil _ | (intro p9 h9; (repeat (first | exact h9 | refine List.mem_cons_of_mem _ ?_ | refine List.mem_append_left _ ?_)))
  k_with "c bnd" =>
    with_reducible (first | assumption | exact Bnd.pow _ | (refine' Bnd.fdiv ?z569za; (case z569za => walk_at "c bnd")) | (exact Bnd.mul (by walk_at "c bnd") (by walk_at "c bnd")) | (exact Bnd.add1 (by walk_at "c bnd") (by walk_at "c bnd")) | (exact Bnd.sub1 (by walk_at "c bnd") (by walk_at "c bnd")) | (exact Bnd.add (by walk_at "c bnd") (by walk_at "c bnd")) | (exact Bnd.sub (by walk_at "c bnd") (by walk_at "c bnd")))
  k_with "c ar" =>
    first | assumption | decide | omega | (split <;> omega)
  k_with "c mul" =>
    exact mulOk_bnd (by walk_at "c bnd") (by walk_at "c bnd") (by walk_at "c ar") (by walk_at "c ar")
  k_with "binaryOp Pow int int" =>
    ((with_reducible refine pow_int_small ?z572zkb1 ?z572zkb2 ?z572zkb3 ?_); (case z572zkb1 => walk_at "c ar"); (case z572zkb2 => walk_at "c ar"); (case z572zkb3 => decide))
  k_with "call ref" =>
    (k_here; (with_reducible show wpAny _ _ (call (Prod.fst _) (_ ++ _)) _ _ _); dsimp only [List.nil_append, List.cons_append])
  k_with "subscriptTail" =>
    (k_here; (with_reducible show wpAny _ _ (subscriptTail _ _ (Value.ref _) (Value.int _ _)) _ _ _); k_dflt (first
    | (refine' item_tupleT ?z574zt ?z574za ?z574zb ?z574zc ?z574zd ?_; (case z574zt => exact News.isTup (by k_asm) (by k_mem)); (case z574za => decide); (case z574zb => decide); (case z574zc => exact rfl); (case z574zd => exact rfl); k_whole)
    | (refine' c_item ?z574zN ?z574zm ?z574za ?z574zb ?z574zc ?_ ?z574zz; (case z574zN => k_asm); (case z574zm => k_mem); (case z574za => decide); (case z574zb => decide); (case z574zc => exact rfl); (case z574zz => with_unfolding_all rfl); k_whole)))
  k_with "subscriptTail Name Constant ref int" =>
    (k_here; (with_reducible show wpAny _ _ (subscriptTail _ _ (Value.ref _) (Value.int _ _)) _ _ _); k_dflt (first
    | (refine' item_tupleT ?z575zt ?z575za ?z575zb ?z575zc ?z575zd ?_; (case z575zt => exact News.isTup (by k_asm) (by k_mem)); (case z575za => decide); (case z575zb => decide); (case z575zc => exact rfl); (case z575zd => exact rfl); k_whole)
    | (refine' c_item ?z575zN ?z575zm ?z575za ?z575zb ?z575zc ?_ ?z575zz; (case z575zN => k_asm); (case z575zm => k_mem); (case z575za => decide); (case z575zb => decide); (case z575zc => exact rfl); (case z575zz => with_unfolding_all rfl); k_whole)))
  trivial
section
variable {w : World} {mean : ExcName → Option Value} {mg mb : PySem.Str → Option Value} {dp un : Nat} {gd : Option (List Code)} {cn : PySem.Str} {cs : Scope} {a₀ : Addr} {ccd : Value} {cl : List (PySem.Str × Addr)} {outer : List Env}
  {A₀ : Around} {base h₀ : Heap} {L : Addr} {m : PySem.Str → Option Value} {s : Shared} {news : List (Addr × Obj)} {Q E : Value → Shared → Prop}
theorem lines_C20_2 : True := by
  k_with "subscriptTail Name Constant ref int" =>
    (k_here; (with_reducible show wpAny _ _ (subscriptTail _ _ (Value.ref _) (Value.int _ _)) _ _ _); k_dflt (refine' c_item ?z576zN ?z576zm ?z576za ?z576zb ?z576zc ?_ ?z576zz; (case z576zN => k_asm); (case z576zm => k_mem); (case z576za => decide); (case z576zb => decide); (case z576zc => exact rfl); (case z576zz => with_unfolding_all rfl); k_whole))
  k_with "c upd" =>
    first | (refine' Upd.head ?z577za; (case z577za => assumption)) | (refine' Upd.tail ?z577za ?z577zb; (case z577za => k_ne); (case z577zb => walk_at "c upd"))
  k_with "setItem ref int int" =>
    (k_here; k_dflt (first
    | ((with_reducible show wpAny _ _ (setItem (Value.ref _) (Value.int 1 _) (Value.int _ _)) _ _ _); (refine' c_set1 ?z578zF ?z578zN ?z578zU ?_; (case z578zF => k_asm); (case z578zN => k_asm); (case z578zU => walk_at "c upd")))
    | ((with_reducible show wpAny _ _ (setItem (Value.ref _) (Value.int 2 _) (Value.int _ _)) _ _ _); (refine' c_set2 ?z578zF ?z578zN ?z578zU ?_; (case z578zF => k_asm); (case z578zN => k_asm); (case z578zU => walk_at "c upd")))); intro h' F' N'; (try k_sweep))
  k_with "compareOp NotEq ref ref" =>
    (k_here; k_dflt (refine' ke_ne_ints ?z579za ?z579zb ?z579zi IntsAre.nil ?z579zu ?_; (case z579za => exact News.isList (by k_asm) (by k_mem)); (case z579zb => exact News.isList (by k_asm) (by k_mem)); (case z579zi => l_ints); (case z579zu => walk_at "c un")))
  k_with "call builtin:len cons nil" =>
    (k_here; (with_reducible show wpAny _ _ (call (Value.builtin _) [Value.ref _]) _ _ _); k_dflt (refine' c_len ?z580zN ?z580zm ?z580zi ?z580za ?_; (case z580zN => k_asm); (case z580zm => k_mem); (case z580zi => assumption); (case z580za => assumption)); intro _ _)
  k_with "subscriptTail Subscript" =>
    (k_here; (with_reducible show wpAny _ _ (subscriptTail _ _ (Value.ref _) (Value.int _ _)) _ _ _); k_dflt (refine' c_cell ?z581zN ?z581zm ?z581zi ?z581za ?z581zb ?_ ?z581zz; (case z581zN => k_asm); (case z581zm => k_mem); (case z581zi => assumption); (case z581za => assumption); (case z581zb => first | assumption | simpa using (by assumption)); (case z581zz => with_unfolding_all rfl); k_whole); intro _ _)
  k_with "c mul" =>
    first | exact IntMulOk.of_left (by decide) | exact st3 rfl _ | exact st4 rfl (by assumption) (by assumption)
  k_with "binaryOp Pow int int" =>
    ((with_reducible refine pow_int_small ?z583zkb1 ?z583zkb2 ?z583zkb3 ?_); (case z583zkb1 => decide); (case z583zkb2 => decide); (case z583zkb3 => first | decide | exact st1 (by assumption) (by assumption) | exact st2 (by assumption) (by assumption)))
  k_with "execs cons Assign cons" =>
    (k_here; (with_reducible show wpAny _ _ (execs (PySem.Stmt.Assign [PySem.Expr.Name (PySem.Str.ofString "stirred") _] _ _ :: PySem.Stmt.Assign _ _ _ :: PySem.Stmt.Return _ _ :: []) _) _ _ _); k_dflt (refine' c_drawT ?z584zB ?z584zF ?z584zX ?z584zN ?z584zT ?z584zK ?z584zD ?z584zU ?z584zhb ?z584zhs ?z584zp0 ?z584zp1 ?z584zp2 ?z584zh0 ?z584zh9 ?z584zm1 ?z584zm2 ?_; (case z584zB => k_asm); (case z584zF => k_asm); (case z584zX => k_asm); (case z584zN => k_asm); (case z584zT => k_asm); (case z584zK => first | exact rfl | assumption); (case z584zD => assumption); (case z584zU => assumption); (case z584zhb => kernel_rfl); (case z584zhs => kernel_rfl); (case z584zp0 => first | exact rfl | assumption); (case z584zp1 => first | exact rfl | assumption); (case z584zp2 => first | exact rfl | assumption); (case z584zh0 => assumption); (case z584zh9 => assumption); (case z584zm1 => assumption); (case z584zm2 => assumption); intro k' t' m' h' tk' F' N' klo' khi'; (try k_sweep); (try dsimp only); (try k_fold)))
  trivial

theorem c_draw (B : Below A₀ base outer h₀) (F : Fr h₀ L s.heap m) (X : (Mine.hd0.heap_1 w.params).In h₀) (N : News h₀ L s.heap news) (T : Top VW LS mean mg mb h₀) (hk : cs.kind = .function) (hd : dp + 12 < recursionLimit) (hu : un + 120 < cLine) {p c : Addr} {sp re : Int} {t1 t2 : Tok} {np : Nat} {out : List (Addr × Obj)} (hp : PenOut p (penObj c sp t1 re t2 np) news out) {ys : List Value} {nc : Nat} {ns : List Int} (hc : (c, listOf ys.toArray nc) ∈ out) (hi : IntsAre ys ns) (hn9 : ns.length ≤ 63) (h0 : 0 ≤ sp) (h9 : sp ≤ 100) {many : Int} {tm : Tok} (m1 : 1 ≤ many) (m2 : many ≤ 100)
    (ret : ∀ k t sp' t1' re' t2' h' tk', Fr h₀ L h' m → News h₀ L h' ((p, penObj c sp' t1' re' t2' np) :: out) → 0 ≤ k → k < many → 0 ≤ sp' → sp' ≤ sp + 1 → Q (.int k t) { s with heap := h', toks := tk' }) : wpAny (model PySem.Challenge.rw_qz0079_01.row.prog w) (ktrTop dp un gd cn cs L a₀ ccd cl outer) (call (.ref 522) [.ref p, .int many tm]) Q E s := by
  have hoff := hp.off
  replace N := cb_drop N hp.sub
  have hlen := hi.length
  clear hp
  revert X; k_fill; intro X
  w_on
  refine wpAny_call ?_
  k_dflt ktr_enter
  k_steps
  all_goals first
    | (exfalso; exact absurd (List.length_eq_zero_iff.mp (Int.ofNat_eq_zero.mp (by with_reducible assumption))) (of_decide_eq_false (by with_reducible assumption)))
    | (rename Fr h₀ L _ m => kF
       rename News h₀ L _ _ => kN
       first
        | (refine ret _ _ _ _ _ _ _ _ kF (cb_drop kN (by walk_at "c sub")) (by with_reducible assumption) (by with_reducible assumption) ?_ ?_ <;> omega)
        | (refine ret _ _ _ _ _ _ _ _ kF (cb_drop kN (by walk_at "c sub")) (fm_lt (by omega)).1 (fm_lt (by omega)).2 ?_ ?_ <;> omega))
end
end PartC20
section PartC21
theorem c_lenv {prog : Program} {w : World} {A : Around} {E : Value → Shared → Prop} {s : Shared} {h₀ : Heap} {L l : Addr} {news : List (Addr × Obj)} {n : Nat} {vs : List Value} {Q : Value → Shared → Prop}
    (N : News h₀ L s.heap news) (hm : (l, listOf vs.toArray n) ∈ news) (hn : vs.length ≤ 100) (h : ∀ t tk, Q (.int (vs.length : Int) t) { s with toks := tk }) : wpAny (model prog w) A (call (.builtin "len") [.ref l]) Q E s := by
  have e : vs.toArray.size = vs.length := List.size_toArray
  refine call_len_list (News.isList N hm) (by rw [e]; omega) ?_
  rw [e]
  exact h _ _
theorem c_itemv {prog : Program} {w : World} {A : Around} {E : Value → Shared → Prop} {s : Shared} {h₀ : Heap} {L l : Addr} {news : List (Addr × Obj)} {value slice : PySem.Expr} {n : Nat} {vs : List Value} {k : Int} {u : Tok} {Q : Value → Shared → Prop}
    (N : News h₀ L s.heap news) (hm : (l, listOf vs.toArray n) ∈ news) (h0 : 0 ≤ k) (h1 : k < (vs.length : Int)) (hn : vs.length ≤ 100) (h : ∀ v, v ∈ vs → Q v s)
    (hs : subscripted slice false (.ref l) (.int k u) = operate [.ref l, .int k u] (getItem (.ref l) (.int k u)) := by with_unfolding_all rfl) :
    wpAny (model prog w) A (subscriptTail value slice (.ref l) (.int k u)) Q E s :=
  have hk : k.toNat < vs.length := by omega
  c_item N hm h0 (by omega) (List.getElem?_eq_getElem hk) (h _ (List.getElem_mem hk)) hs
theorem lines_C21_1 : True := by
  k_with_none
  k_with "c mem" =>
    first | ((with_reducible refine' mem_here ?z585zh9); (case z585zh9 => exact rfl)) | ((with_reducible refine' mem_nth 1 ?z585zh9); (case z585zh9 => exact rfl)) | ((with_reducible refine' mem_nth 2 ?z585zh9); (case z585zh9 => exact rfl)) | ((with_reducible refine' mem_nth 3 ?z585zh9); (case z585zh9 => exact rfl)) | ((with_reducible refine' mem_nth 4 ?z585zh9); (case z585zh9 => exact rfl)) | ((with_reducible refine' mem_nth 5 ?z585zh9); (case z585zh9 => exact rfl)) | ((with_reducible refine' mem_nth 6 ?z585zh9); (case z585zh9 => exact rfl)) | ((with_reducible refine' mem_nth 7 ?z585zh9); (case z585zh9 => exact rfl)) | ((with_reducible refine' mem_nth 8 ?z585zh9); (case z585zh9 => exact rfl)) | ((with_reducible refine' mem_nth 9 ?z585zh9); (case z585zh9 => exact rfl)) | ((with_reducible refine' mem_skip ?_); walk_at "c mem") | (with_reducible exact List.mem_append_left _ (by with_reducible assumption)) | ktr_member | ((with_reducible refine' List.mem_cons_of_mem _ ?_); walk_at "c mem") | ((with_reducible refine' List.mem_append_right _ ?_); walk_at "c mem")
  k_with "c room" =>
    with_reducible first | assumption | exact room1 (by assumption) rfl | exact room2 (by assumption) rfl | exact room3 (by assumption) rfl | exact room4 (by assumption) rfl
  k_with "c le" =>
    with_reducible first | assumption | exact Nat.le_trans (by assumption) (by decide)
  k_with "c lt1" =>
    with_reducible first | assumption | exact cj0 | exact cj1 | exact cj2 | exact cj3 | exact cj4 | exact cj5 | exact cj6 | exact cj7 | exact cj8 | exact cj9 | exact cj10 | exact cj11 | exact cj12 | exact cj13 | exact cj14 | exact cj15 | exact cj16 | exact cj17 | exact cj18 | exact cj19 | exact cj20 | exact cj21 | exact cj22 | exact cj23 | exact And.right (by with_reducible assumption) | exact And.right (And.right (by with_reducible assumption)) | exact And.right (And.right (And.right (by with_reducible assumption))) | exact And.right (And.right (And.right (And.right (by with_reducible assumption))))
  k_with "c lt2" =>
    ((with_reducible refine' Nat.lt_trans ?z589za9 ?z589zb9); (case z589zb9 => with_reducible assumption); (case z589za9 => walk_at "c lt1"))
  k_with "c lt" =>
    first | walk_at "c lt1" | walk_at "c lt2"
  k_with "c up3" =>
    with_reducible first | exact abv3 (by assumption) | exact abv3_1 (by assumption) | exact abv3_2 (by assumption) | exact abv3_3 (by assumption) | exact abv3_4 (by assumption) | (refine' Abv3.tr ?z591za9 ?z591zb9; (case z591za9 => assumption); (case z591zb9 => walk_at "c up3"))
  k_with "c ne" =>
    first | with_reducible (first | assumption | exact And.left (by assumption) | exact Ne.symm (And.left (by assumption)) | exact And.left (And.right (by assumption)) | exact Ne.symm (And.left (And.right (by assumption))) | exact And.right (And.right (by assumption)) | exact Ne.symm (And.right (And.right (by assumption))) | exact neq_lt (by assumption) | exact neq_gt (by assumption) | exact nl0 | exact nr0 | exact nl1 | exact nr1 | exact nl2 | exact nr2 | exact nl3 | exact nr3 | exact nl4 | exact nr4 | exact nl5 | exact nr5 | exact nl6 | exact nr6 | exact nl7 | exact nr7 | exact nl8 | exact nr8 | exact nl9 | exact nr9 | exact nl10 | exact nr10 | exact nl11 | exact nr11 | exact nl12 | exact nr12 | exact nl13 | exact nr13 | exact nl14 | exact nr14 | exact nl15 | exact nr15 | exact nl16 | exact nr16 | exact nl17 | exact nr17 | exact nl18 | exact nr18 | exact nl19 | exact nr19 | exact nl20 | exact nr20 | exact nl21 | exact nr21 | exact nl22 | exact nr22 | exact nl23 | exact nr23) | ((with_reducible refine' neq_lt ?z592zz9); (case z592zz9 => walk_at "c lt2")) | ((with_reducible refine' neq_gt ?z592zz9); (case z592zz9 => walk_at "c lt2")) | ((try dsimp only); omega)
  k_with "c dp" =>
    ((try simp only [depth_under_make, depth_under_kw, depth_in1, depth_deeper, depth_caller]); (try dsimp only [ktrTop]); first | walk_at "c room" | omega | decide)
  k_with "c un" =>
    ((try simp only [units_make, units_in1, units_deeper, Around.mark_units, units_caller]); (try dsimp only [ktrTop]); first | walk_at "c room" | omega | decide)
  k_with "c sub" =>
    first | (refine List.forall_mem_cons.mpr ⟨?z595za, ?z595zb⟩; (case z595za => walk_at "c mem"); (case z595zb => walk_at "c sub")) | exact List.forall_mem_nil _ | (intro p9 h9; (repeat (first | exact h9 | refine List.mem_cons_of_mem _ ?_ | refine List.mem_append_left _ ?_)))
  k_with "c bnd" =>
    with_reducible (first | assumption | exact Bnd.pow _ | (refine' Bnd.fdiv ?z596za; (case z596za => walk_at "c bnd")) | (exact Bnd.mul (by walk_at "c bnd") (by walk_at "c bnd")) | (exact Bnd.add1 (by walk_at "c bnd") (by walk_at "c bnd")) | (exact Bnd.sub1 (by walk_at "c bnd") (by walk_at "c bnd")) | (exact Bnd.add (by walk_at "c bnd") (by walk_at "c bnd")) | (exact Bnd.sub (by walk_at "c bnd") (by walk_at "c bnd")))
  k_with "c ar" =>
    first | assumption | decide | omega | (split <;> omega)
  k_with "c mul" =>
    exact mulOk_bnd (by walk_at "c bnd") (by walk_at "c bnd") (by walk_at "c ar") (by walk_at "c ar")
  k_with "binaryOp Pow int int" =>
    ((with_reducible refine pow_int_small ?z599zkb1 ?z599zkb2 ?z599zkb3 ?_); (case z599zkb1 => walk_at "c ar"); (case z599zkb2 => walk_at "c ar"); (case z599zkb3 => decide))
  k_with "call ref" =>
    (k_here; (with_reducible show wpAny _ _ (call (Prod.fst _) (_ ++ _)) _ _ _); dsimp only [List.nil_append, List.cons_append])
  k_with "subscriptTail" =>
    (k_here; (with_reducible show wpAny _ _ (subscriptTail _ _ (Value.ref _) (Value.int _ _)) _ _ _); k_dflt (first
    | (refine' item_tupleT ?z601zt ?z601za ?z601zb ?z601zc ?z601zd ?_; (case z601zt => exact News.isTup (by k_asm) (by k_mem)); (case z601za => decide); (case z601zb => decide); (case z601zc => exact rfl); (case z601zd => exact rfl); k_whole)
    | (refine' c_item ?z601zN ?z601zm ?z601za ?z601zb ?z601zc ?_ ?z601zz; (case z601zN => k_asm); (case z601zm => k_mem); (case z601za => decide); (case z601zb => decide); (case z601zc => exact rfl); (case z601zz => with_unfolding_all rfl); k_whole)))
  k_with "subscriptTail Name Constant ref int" =>
    (k_here; (with_reducible show wpAny _ _ (subscriptTail _ _ (Value.ref _) (Value.int _ _)) _ _ _); k_dflt (first
    | (refine' item_tupleT ?z602zt ?z602za ?z602zb ?z602zc ?z602zd ?_; (case z602zt => exact News.isTup (by k_asm) (by k_mem)); (case z602za => decide); (case z602zb => decide); (case z602zc => exact rfl); (case z602zd => exact rfl); k_whole)
    | (refine' c_item ?z602zN ?z602zm ?z602za ?z602zb ?z602zc ?_ ?z602zz; (case z602zN => k_asm); (case z602zm => k_mem); (case z602za => decide); (case z602zb => decide); (case z602zc => exact rfl); (case z602zz => with_unfolding_all rfl); k_whole)))
  trivial
section
variable {w : World} {mean : ExcName → Option Value} {mg mb : PySem.Str → Option Value} {dp un : Nat} {gd : Option (List Code)} {cn : PySem.Str} {cs : Scope} {a₀ : Addr} {ccd : Value} {cl : List (PySem.Str × Addr)} {outer : List Env}
  {A₀ : Around} {base h₀ : Heap} {L : Addr} {m : PySem.Str → Option Value} {s : Shared} {news : List (Addr × Obj)} {Q E : Value → Shared → Prop}
theorem lines_C21_2 : True := by
  k_with "c pen" =>
    first | exact PenOut.done (by assumption) | (refine' PenOut.take ?z603za ?z603zb; (case z603za => first | k_ne | omega); (case z603zb => walk_at "c pen"))
  k_with "call ref" =>
    (k_here; (with_reducible show wpAny _ _ (call (Value.ref 522) [Value.ref _, Value.int _ _]) _ _ _); k_dflt (refine' c_draw ?z604zcB ?z604zcF ?z604zcX ?z604zcN ?z604zcT ?z604zcK ?z604zcD ?z604zcU ?z604zp0 ?z604zp1 ?z604zp2 ?z604zp3 ?z604zp4 ?z604zp5 ?z604zp6 ?z604zp7 ?_; (case z604zcB => k_asm); (case z604zcF => k_asm); (case z604zcX => k_asm); (case z604zcN => k_asm); (case z604zcT => k_asm); (case z604zcK => first | exact rfl | assumption); (case z604zcD => walk_at "c dp"); (case z604zcU => walk_at "c un"); (case z604zp0 => walk_at "c pen"); (case z604zp1 => k_mem); (case z604zp2 => assumption); (case z604zp3 => assumption); (case z604zp4 => first | assumption | decide | omega); (case z604zp5 => first | assumption | decide | omega); (case z604zp6 => omega); (case z604zp7 => omega); intro k' t' sp' t1' re' t2' h' tk' F' N' b1 b2 b3 b4; (try k_sweep); (try dsimp only); (try k_fold)))
  k_with "call builtin:len cons nil" =>
    (k_here; (with_reducible show wpAny _ _ (call (Value.builtin _) [Value.ref _]) _ _ _); k_dflt (refine' c_lenv ?z605zN ?z605zm ?z605za ?_; (case z605zN => k_asm); (case z605zm => k_mem); (case z605za => assumption)); intro _ _)
  k_with "subscriptTail Name Call ref int" =>
    (k_here; (with_reducible show wpAny _ _ (subscriptTail _ _ (Value.ref _) (Value.int _ _)) _ _ _); k_dflt (refine' c_itemv ?z606zN ?z606zm ?z606za ?z606zb ?z606zc ?_ ?z606zz; (case z606zN => k_asm); (case z606zm => k_mem); (case z606za => assumption); (case z606zb => assumption); (case z606zc => assumption); (case z606zz => with_unfolding_all rfl); k_whole); intro v' hv')
  trivial

theorem c_pick (B : Below A₀ base outer h₀) (F : Fr h₀ L s.heap m) (X : (Mine.hd0.heap_1 w.params).In h₀) (N : News h₀ L s.heap news) (T : Top VW LS mean mg mb h₀) (hk : cs.kind = .function) (hd : dp + 16 < recursionLimit) (hu : un + 160 < cLine) {p c : Addr} {sp re : Int} {t1 t2 : Tok} {np : Nat} {out : List (Addr × Obj)} (hp : PenOut p (penObj c sp t1 re t2 np) news out) {ys : List Value} {nc : Nat} {ns : List Int} (hc : (c, listOf ys.toArray nc) ∈ out) (hi : IntsAre ys ns) (hn9 : ns.length ≤ 63) (h0 : 0 ≤ sp) (h9 : sp ≤ 100) {l : Addr} {vs : List Value} {nl : Nat} (hl : (l, listOf vs.toArray nl) ∈ out) (v1 : 1 ≤ vs.length) (v2 : vs.length ≤ 100)
    (ret : ∀ v sp' t1' re' t2' h' tk', Fr h₀ L h' m → News h₀ L h' ((p, penObj c sp' t1' re' t2' np) :: out) → v ∈ vs → 0 ≤ sp' → sp' ≤ sp + 1 → Q v { s with heap := h', toks := tk' }) : wpAny (model PySem.Challenge.rw_qz0079_01.row.prog w) (ktrTop dp un gd cn cs L a₀ ccd cl outer) (call (.ref 529) [.ref p, .ref l]) Q E s := by
  have hoff := hp.off
  replace N := cb_drop N hp.sub
  clear hp
  revert X; k_fill; intro X
  w_on
  refine wpAny_call ?_
  k_dflt ktr_enter
  k_steps
  rename Fr h₀ L _ m => kF
  rename News h₀ L _ _ => kN
  exact ret _ _ _ _ _ _ _ kF (cb_drop kN (by walk_at "c sub")) (by assumption) (by assumption) (by assumption)
end
end PartC21
section PartC22
theorem lines_C22_1 : True := by
  k_with_none
  k_with "c mem" =>
    first | ((with_reducible refine' mem_here ?z607zh9); (case z607zh9 => exact rfl)) | ((with_reducible refine' mem_nth 1 ?z607zh9); (case z607zh9 => exact rfl)) | ((with_reducible refine' mem_nth 2 ?z607zh9); (case z607zh9 => exact rfl)) | ((with_reducible refine' mem_nth 3 ?z607zh9); (case z607zh9 => exact rfl)) | ((with_reducible refine' mem_nth 4 ?z607zh9); (case z607zh9 => exact rfl)) | ((with_reducible refine' mem_nth 5 ?z607zh9); (case z607zh9 => exact rfl)) | ((with_reducible refine' mem_nth 6 ?z607zh9); (case z607zh9 => exact rfl)) | ((with_reducible refine' mem_nth 7 ?z607zh9); (case z607zh9 => exact rfl)) | ((with_reducible refine' mem_nth 8 ?z607zh9); (case z607zh9 => exact rfl)) | ((with_reducible refine' mem_nth 9 ?z607zh9); (case z607zh9 => exact rfl)) | ((with_reducible refine' mem_skip ?_); walk_at "c mem") | (with_reducible exact List.mem_append_left _ (by with_reducible assumption)) | ktr_member | ((with_reducible refine' List.mem_cons_of_mem _ ?_); walk_at "c mem") | ((with_reducible refine' List.mem_append_right _ ?_); walk_at "c mem")
  k_with "c room" =>
    with_reducible first | assumption | exact room1 (by assumption) rfl | exact room2 (by assumption) rfl | exact room3 (by assumption) rfl | exact room4 (by assumption) rfl
  k_with "c le" =>
    with_reducible first | assumption | exact Nat.le_trans (by assumption) (by decide)
  k_with "c lt1" =>
    with_reducible first | assumption | exact cj0 | exact cj1 | exact cj2 | exact cj3 | exact cj4 | exact cj5 | exact cj6 | exact cj7 | exact cj8 | exact cj9 | exact cj10 | exact cj11 | exact cj12 | exact cj13 | exact cj14 | exact cj15 | exact cj16 | exact cj17 | exact cj18 | exact cj19 | exact cj20 | exact cj21 | exact cj22 | exact cj23 | exact And.right (by with_reducible assumption) | exact And.right (And.right (by with_reducible assumption)) | exact And.right (And.right (And.right (by with_reducible assumption))) | exact And.right (And.right (And.right (And.right (by with_reducible assumption))))
  k_with "c lt2" =>
    ((with_reducible refine' Nat.lt_trans ?z611za9 ?z611zb9); (case z611zb9 => with_reducible assumption); (case z611za9 => walk_at "c lt1"))
  k_with "c lt" =>
    first | walk_at "c lt1" | walk_at "c lt2"
  k_with "c up3" =>
    with_reducible first | exact abv3 (by assumption) | exact abv3_1 (by assumption) | exact abv3_2 (by assumption) | exact abv3_3 (by assumption) | exact abv3_4 (by assumption) | (refine' Abv3.tr ?z613za9 ?z613zb9; (case z613za9 => assumption); (case z613zb9 => walk_at "c up3"))
  k_with "c ne" =>
    first | with_reducible (first | assumption | exact And.left (by assumption) | exact Ne.symm (And.left (by assumption)) | exact And.left (And.right (by assumption)) | exact Ne.symm (And.left (And.right (by assumption))) | exact And.right (And.right (by assumption)) | exact Ne.symm (And.right (And.right (by assumption))) | exact neq_lt (by assumption) | exact neq_gt (by assumption) | exact nl0 | exact nr0 | exact nl1 | exact nr1 | exact nl2 | exact nr2 | exact nl3 | exact nr3 | exact nl4 | exact nr4 | exact nl5 | exact nr5 | exact nl6 | exact nr6 | exact nl7 | exact nr7 | exact nl8 | exact nr8 | exact nl9 | exact nr9 | exact nl10 | exact nr10 | exact nl11 | exact nr11 | exact nl12 | exact nr12 | exact nl13 | exact nr13 | exact nl14 | exact nr14 | exact nl15 | exact nr15 | exact nl16 | exact nr16 | exact nl17 | exact nr17 | exact nl18 | exact nr18 | exact nl19 | exact nr19 | exact nl20 | exact nr20 | exact nl21 | exact nr21 | exact nl22 | exact nr22 | exact nl23 | exact nr23) | ((with_reducible refine' neq_lt ?z614zz9); (case z614zz9 => walk_at "c lt2")) | ((with_reducible refine' neq_gt ?z614zz9); (case z614zz9 => walk_at "c lt2")) | ((try dsimp only); omega)
  k_with "c dp" =>
    ((try simp only [depth_under_make, depth_under_kw, depth_in1, depth_deeper, depth_caller]); (try dsimp only [ktrTop]); first | walk_at "c room" | omega | decide)
  k_with "c un" =>
    ((try simp only [units_make, units_in1, units_deeper, Around.mark_units, units_caller]); (try dsimp only [ktrTop]); first | walk_at "c room" | omega | decide)
  k_with "c sub" =>
    first | (refine List.forall_mem_cons.mpr ⟨?z617za, ?z617zb⟩; (case z617za => walk_at "c mem"); (case z617zb => walk_at "c sub")) | exact List.forall_mem_nil _ | (intro p9 h9; (repeat (first | exact h9 | refine List.mem_cons_of_mem _ ?_ | refine List.mem_append_left _ ?_)))
  k_with "c bnd" =>
    with_reducible (first | assumption | exact Bnd.pow _ | (refine' Bnd.fdiv ?z618za; (case z618za => walk_at "c bnd")) | (exact Bnd.mul (by walk_at "c bnd") (by walk_at "c bnd")) | (exact Bnd.add1 (by walk_at "c bnd") (by walk_at "c bnd")) | (exact Bnd.sub1 (by walk_at "c bnd") (by walk_at "c bnd")) | (exact Bnd.add (by walk_at "c bnd") (by walk_at "c bnd")) | (exact Bnd.sub (by walk_at "c bnd") (by walk_at "c bnd")))
  k_with "c ar" =>
    first | assumption | decide | omega | (split <;> omega)
  k_with "c mul" =>
    exact mulOk_bnd (by walk_at "c bnd") (by walk_at "c bnd") (by walk_at "c ar") (by walk_at "c ar")
  k_with "binaryOp Pow int int" =>
    ((with_reducible refine pow_int_small ?z621zkb1 ?z621zkb2 ?z621zkb3 ?_); (case z621zkb1 => walk_at "c ar"); (case z621zkb2 => walk_at "c ar"); (case z621zkb3 => decide))
  k_with "call ref" =>
    (k_here; (with_reducible show wpAny _ _ (call (Prod.fst _) (_ ++ _)) _ _ _); dsimp only [List.nil_append, List.cons_append])
  k_with "subscriptTail" =>
    (k_here; (with_reducible show wpAny _ _ (subscriptTail _ _ (Value.ref _) (Value.int _ _)) _ _ _); k_dflt (first
    | (refine' item_tupleT ?z623zt ?z623za ?z623zb ?z623zc ?z623zd ?_; (case z623zt => exact News.isTup (by k_asm) (by k_mem)); (case z623za => decide); (case z623zb => decide); (case z623zc => exact rfl); (case z623zd => exact rfl); k_whole)
    | (refine' c_item ?z623zN ?z623zm ?z623za ?z623zb ?z623zc ?_ ?z623zz; (case z623zN => k_asm); (case z623zm => k_mem); (case z623za => decide); (case z623zb => decide); (case z623zc => exact rfl); (case z623zz => with_unfolding_all rfl); k_whole)))
  k_with "subscriptTail Name Constant ref int" =>
    (k_here; (with_reducible show wpAny _ _ (subscriptTail _ _ (Value.ref _) (Value.int _ _)) _ _ _); k_dflt (first
    | (refine' item_tupleT ?z624zt ?z624za ?z624zb ?z624zc ?z624zd ?_; (case z624zt => exact News.isTup (by k_asm) (by k_mem)); (case z624za => decide); (case z624zb => decide); (case z624zc => exact rfl); (case z624zd => exact rfl); k_whole)
    | (refine' c_item ?z624zN ?z624zm ?z624za ?z624zb ?z624zc ?_ ?z624zz; (case z624zN => k_asm); (case z624zm => k_mem); (case z624za => decide); (case z624zb => decide); (case z624zc => exact rfl); (case z624zz => with_unfolding_all rfl); k_whole)))
  trivial
section
variable {w : World} {mean : ExcName → Option Value} {mg mb : PySem.Str → Option Value} {dp un : Nat} {gd : Option (List Code)} {cn : PySem.Str} {cs : Scope} {a₀ : Addr} {ccd : Value} {cl : List (PySem.Str × Addr)} {outer : List Env}
  {A₀ : Around} {base h₀ : Heap} {L : Addr} {m : PySem.Str → Option Value} {s : Shared} {news : List (Addr × Obj)} {Q E : Value → Shared → Prop}
local macro_rules | `(tactic| kmk_list) => `(tactic| exact Fr.lst (by k_asm) (Fr.lst (by assumption) (by assumption)))
theorem lines_C22_2 : True := by
  k_with "eval ListComp" =>
    (k_here; k_dflt (refine LCg.ListComp_U (F₀ := by k_asm) (by with_unfolding_all rfl) (by decide) (by rfl) (by decide) (by rfl) ?_))
  k_with "CompSrc" =>
    (k_here; k_dflt (refine LCg.CompSrc.ledger (by rfl) (by k_asm) (by k_asm) (by k_mem) (by kcf_size) ?_; intro g'; (refine' kcf_list _ (by first | assumption | l_ints) (fun k' t' I' oI' C' oC' D' m' ys' h' tk' E' hk' hC' hx' F' N' off' ne' hMark' => ?_) ?_); (all_goals (try (simp only [LCg.Off3, and_true] at off'))); kcf_last))
  trivial

theorem c_lookup (B : Below A₀ base outer h₀) (F : Fr h₀ L s.heap m) (X : (Mine.hd0.heap_1 w.params).In h₀) (N : News h₀ L s.heap news) (T : Top VW LS mean mg mb h₀) (hk : cs.kind = .function) (hd : dp + 12 < recursionLimit) (hu : un + 120 < cLine) {a b : Addr} {oa ob : Obj} {ka kb : List (PySem.Str × Value)} (ha : (a, oa) ∈ news) (hda : DictIs w a oa ka) (hb : (b, ob) ∈ news) (hdb : DictIs w b ob kb)
    (ret : ∀ x dx k1 k2 h' tk', Fr h₀ L h' m → News h₀ L h' ((x, instObj 473 dx) :: (dx, shelfObj w a b k1 k2) :: news) → AllLt dx news → @LT.lt Nat _ dx x → Q (.ref x) { s with heap := h', toks := tk' }) : wpAny (model PySem.Challenge.rw_qz0079_01.row.prog w) (ktrTop dp un gd cn cs L a₀ ccd cl outer) (call (.ref 473) [.ref a, .ref b]) Q E s := by
  revert X; k_fill; intro X
  w_on
  k_dflt (refine' call_cls ?k1 ?k2 ?k3 ?k4 ?k5 ?k6 ?_; (case k1 => k_asm); (case k2 => k_asm); (case k3 => k_asm); (case k4 => k_is); (case k5 => k_is); (case k6 => k_is); k_whole; intro x' d' h' F' N' l1 l2; have l1' := l1; have l2' := l2; (try k_lt l1); (try k_lt2 l2); (try k_sweep))
  k_dflt (refine' code_def ?k1 ?k2 ?k3 ?k4 ?k5 ?kA ?kF ?kK ?k6 ?k7 ?k8 ?k9 ?kB ?_ ?c2 ?c3 ?c4 ?c5; (case kA => exact rfl); (case kF => exact rfl); (case kK => assumption); (case k1 => k_asm); (case k2 => k_asm); (case k3 => k_asm); (case k4 => k_asm); (case k5 => k_asm); (case k6 => k_is); (case k7 => k_is); (case k8 => ktr_room); (case k9 => exact binds_K (by k_in) rfl (by k_is) rfl rfl rfl); (case c5 => decide); (case kB => exact locs rfl); (case c2 => exact rfl); (case c3 => exact rfl); (case c4 => exact rfl); k_whole; intro g' L' h' FG' F' N' B' X' T'; (try dsimp only); (try k_fold))
  k_steps
  rename Fr h₀ L _ m => kF
  rename News h₀ L _ _ => kN
  exact ret _ _ _ _ _ _ kF kN (allLt_of l1') l2'

theorem c_pen (B : Below A₀ base outer h₀) (F : Fr h₀ L s.heap m) (X : (Mine.hd0.heap_1 w.params).In h₀) (N : News h₀ L s.heap news) (T : Top VW LS mean mg mb h₀) (hk : cs.kind = .function) (hd : dp + 16 < recursionLimit) (hu : un + 160 < cLine) {a : Addr} {vs : List Value} {ns : List Int} (hS : h₀.IsList a vs.toArray) (hi : IntsAre vs ns) (hlay : PyData.layable0 (.list (ns.map .int)) = true) (hl : ns.length ≤ 63)
    (ret : ∀ p c ys nc ms t1 t2 np h' tk', Fr h₀ L h' m → News h₀ L h' ((p, penObj c 0 t1 0 t2 np) :: (c, listOf ys.toArray nc) :: news) → IntsAre ys ms → ms.length ≤ 63 → AllLt p news → LCg.Off1 c news → @LT.lt Nat _ c p → Q (.ref p) { s with heap := h', toks := tk' }) : wpAny (model PySem.Challenge.rw_qz0079_01.row.prog w) (ktrTop dp un gd cn cs L a₀ ccd cl outer) (call (.ref 515) [.ref a]) Q E s := by
  revert X; k_fill; intro X
  w_on
  refine wpAny_call ?_
  k_dflt ktr_enter
  k_steps
  rename Fr h₀ L _ m => kF
  rename News h₀ L _ _ => kN
  rename IntsAre _ (List.map _ _) => hI9
  exact ret _ _ _ _ _ _ _ _ _ _ kF (cb_drop kN (by walk_at "c sub")) hI9 (by simp only [List.length_map]; omega) (by first | tbn_find | exact allLt_of (by assumption)) (And.right (by assumption)) (by omega)
end
end PartC22
section PartC23
theorem lines_C23_1 : True := by
  k_with_none
  k_with "c mem" =>
    first | ((with_reducible refine' mem_here ?z627zh9); (case z627zh9 => exact rfl)) | ((with_reducible refine' mem_nth 1 ?z627zh9); (case z627zh9 => exact rfl)) | ((with_reducible refine' mem_nth 2 ?z627zh9); (case z627zh9 => exact rfl)) | ((with_reducible refine' mem_nth 3 ?z627zh9); (case z627zh9 => exact rfl)) | ((with_reducible refine' mem_nth 4 ?z627zh9); (case z627zh9 => exact rfl)) | ((with_reducible refine' mem_nth 5 ?z627zh9); (case z627zh9 => exact rfl)) | ((with_reducible refine' mem_nth 6 ?z627zh9); (case z627zh9 => exact rfl)) | ((with_reducible refine' mem_nth 7 ?z627zh9); (case z627zh9 => exact rfl)) | ((with_reducible refine' mem_nth 8 ?z627zh9); (case z627zh9 => exact rfl)) | ((with_reducible refine' mem_nth 9 ?z627zh9); (case z627zh9 => exact rfl)) | ((with_reducible refine' mem_skip ?_); walk_at "c mem") | (with_reducible exact List.mem_append_left _ (by with_reducible assumption)) | ktr_member | ((with_reducible refine' List.mem_cons_of_mem _ ?_); walk_at "c mem") | ((with_reducible refine' List.mem_append_right _ ?_); walk_at "c mem")
  k_with "c room" =>
    with_reducible first | assumption | exact room1 (by assumption) rfl | exact room2 (by assumption) rfl | exact room3 (by assumption) rfl | exact room4 (by assumption) rfl
  k_with "c le" =>
    with_reducible first | assumption | exact Nat.le_trans (by assumption) (by decide)
  k_with "c lt1" =>
    with_reducible first | assumption | exact cj0 | exact cj1 | exact cj2 | exact cj3 | exact cj4 | exact cj5 | exact cj6 | exact cj7 | exact cj8 | exact cj9 | exact cj10 | exact cj11 | exact cj12 | exact cj13 | exact cj14 | exact cj15 | exact cj16 | exact cj17 | exact cj18 | exact cj19 | exact cj20 | exact cj21 | exact cj22 | exact cj23 | exact And.right (by with_reducible assumption) | exact And.right (And.right (by with_reducible assumption)) | exact And.right (And.right (And.right (by with_reducible assumption))) | exact And.right (And.right (And.right (And.right (by with_reducible assumption))))
  k_with "c lt2" =>
    ((with_reducible refine' Nat.lt_trans ?z631za9 ?z631zb9); (case z631zb9 => with_reducible assumption); (case z631za9 => walk_at "c lt1"))
  k_with "c lt" =>
    first | walk_at "c lt1" | walk_at "c lt2"
  k_with "c up3" =>
    with_reducible first | exact abv3 (by assumption) | exact abv3_1 (by assumption) | exact abv3_2 (by assumption) | exact abv3_3 (by assumption) | exact abv3_4 (by assumption) | (refine' Abv3.tr ?z633za9 ?z633zb9; (case z633za9 => assumption); (case z633zb9 => walk_at "c up3"))
  k_with "c ne" =>
    first | with_reducible (first | assumption | exact And.left (by assumption) | exact Ne.symm (And.left (by assumption)) | exact And.left (And.right (by assumption)) | exact Ne.symm (And.left (And.right (by assumption))) | exact And.right (And.right (by assumption)) | exact Ne.symm (And.right (And.right (by assumption))) | exact neq_lt (by assumption) | exact neq_gt (by assumption) | exact nl0 | exact nr0 | exact nl1 | exact nr1 | exact nl2 | exact nr2 | exact nl3 | exact nr3 | exact nl4 | exact nr4 | exact nl5 | exact nr5 | exact nl6 | exact nr6 | exact nl7 | exact nr7 | exact nl8 | exact nr8 | exact nl9 | exact nr9 | exact nl10 | exact nr10 | exact nl11 | exact nr11 | exact nl12 | exact nr12 | exact nl13 | exact nr13 | exact nl14 | exact nr14 | exact nl15 | exact nr15 | exact nl16 | exact nr16 | exact nl17 | exact nr17 | exact nl18 | exact nr18 | exact nl19 | exact nr19 | exact nl20 | exact nr20 | exact nl21 | exact nr21 | exact nl22 | exact nr22 | exact nl23 | exact nr23) | ((with_reducible refine' neq_lt ?z634zz9); (case z634zz9 => walk_at "c lt2")) | ((with_reducible refine' neq_gt ?z634zz9); (case z634zz9 => walk_at "c lt2")) | ((try dsimp only); omega)
  k_with "c dp" =>
    ((try simp only [depth_under_make, depth_under_kw, depth_in1, depth_deeper, depth_caller]); (try dsimp only [ktrTop]); first | walk_at "c room" | omega | decide)
  k_with "c un" =>
    ((try simp only [units_make, units_in1, units_deeper, Around.mark_units, units_caller]); (try dsimp only [ktrTop]); first | walk_at "c room" | omega | decide)
  k_with "c sub" =>
    first | (refine List.forall_mem_cons.mpr ⟨?z637za, ?z637zb⟩; (case z637za => walk_at "c mem"); (case z637zb => walk_at "c sub")) | exact List.forall_mem_nil _ | (intro p9 h9; (repeat (first | exact h9 | refine List.mem_cons_of_mem _ ?_ | refine List.mem_append_left _ ?_)))
  k_with "c bnd" =>
    with_reducible (first | assumption | exact Bnd.pow _ | (refine' Bnd.fdiv ?z638za; (case z638za => walk_at "c bnd")) | (exact Bnd.mul (by walk_at "c bnd") (by walk_at "c bnd")) | (exact Bnd.add1 (by walk_at "c bnd") (by walk_at "c bnd")) | (exact Bnd.sub1 (by walk_at "c bnd") (by walk_at "c bnd")) | (exact Bnd.add (by walk_at "c bnd") (by walk_at "c bnd")) | (exact Bnd.sub (by walk_at "c bnd") (by walk_at "c bnd")))
  k_with "c ar" =>
    first | assumption | decide | omega | (split <;> omega)
  k_with "c mul" =>
    exact mulOk_bnd (by walk_at "c bnd") (by walk_at "c bnd") (by walk_at "c ar") (by walk_at "c ar")
  k_with "binaryOp Pow int int" =>
    ((with_reducible refine pow_int_small ?z641zkb1 ?z641zkb2 ?z641zkb3 ?_); (case z641zkb1 => walk_at "c ar"); (case z641zkb2 => walk_at "c ar"); (case z641zkb3 => decide))
  k_with "call ref" =>
    (k_here; (with_reducible show wpAny _ _ (call (Prod.fst _) (_ ++ _)) _ _ _); dsimp only [List.nil_append, List.cons_append])
  k_with "subscriptTail" =>
    (k_here; (with_reducible show wpAny _ _ (subscriptTail _ _ (Value.ref _) (Value.int _ _)) _ _ _); k_dflt (first
    | (refine' item_tupleT ?z643zt ?z643za ?z643zb ?z643zc ?z643zd ?_; (case z643zt => exact News.isTup (by k_asm) (by k_mem)); (case z643za => decide); (case z643zb => decide); (case z643zc => exact rfl); (case z643zd => exact rfl); k_whole)
    | (refine' c_item ?z643zN ?z643zm ?z643za ?z643zb ?z643zc ?_ ?z643zz; (case z643zN => k_asm); (case z643zm => k_mem); (case z643za => decide); (case z643zb => decide); (case z643zc => exact rfl); (case z643zz => with_unfolding_all rfl); k_whole)))
  k_with "subscriptTail Name Constant ref int" =>
    (k_here; (with_reducible show wpAny _ _ (subscriptTail _ _ (Value.ref _) (Value.int _ _)) _ _ _); k_dflt (first
    | (refine' item_tupleT ?z644zt ?z644za ?z644zb ?z644zc ?z644zd ?_; (case z644zt => exact News.isTup (by k_asm) (by k_mem)); (case z644za => decide); (case z644zb => decide); (case z644zc => exact rfl); (case z644zd => exact rfl); k_whole)
    | (refine' c_item ?z644zN ?z644zm ?z644za ?z644zb ?z644zc ?_ ?z644zz; (case z644zN => k_asm); (case z644zm => k_mem); (case z644za => decide); (case z644zb => decide); (case z644zc => exact rfl); (case z644zz => with_unfolding_all rfl); k_whole)))
  trivial
section
variable {w : World} {mean : ExcName → Option Value} {mg mb : PySem.Str → Option Value} {dp un : Nat} {gd : Option (List Code)} {cn : PySem.Str} {cs : Scope} {a₀ : Addr} {ccd : Value} {cl : List (PySem.Str × Addr)} {outer : List Env}
  {A₀ : Around} {base h₀ : Heap} {L : Addr} {m : PySem.Str → Option Value} {s : Shared} {news : List (Addr × Obj)} {Q E : Value → Shared → Prop}

theorem c_form0 (B : Below A₀ base outer h₀) (F : Fr h₀ L s.heap m) (X : (Mine.hd0.heap_1 w.params).In h₀) (N : News h₀ L s.heap news) (T : Top VW LS mean mg mb h₀) (hk : cs.kind = .function) (hd : dp + 16 < recursionLimit) (hu : un + 160 < cLine) {lf : Addr} {ff : Array Value} {nf : Nat} (hf : (lf, listOf ff nf) ∈ news) 
   (ret : ∀ x dx hh oh kvh oc k1 k2 h' tk', Fr h₀ L h' m → News h₀ L h' ((x, instObj 395 dx) :: (dx, streamObj w hh oc k1 k2) :: (hh, oh) :: news) → Fresh news [(x, instObj 395 dx), (dx, streamObj w hh oc k1 k2), (hh, oh)] → DictIs w hh oh kvh → valueAt kvh (PySem.Str.ofString "BBox") = some (.ref lf) → valueAt kvh (PySem.Str.ofString "Matrix") = none → Q (.ref x) { s with heap := h', toks := tk' }) : wpAny (model PySem.Challenge.rw_qz0079_01.row.prog w) (ktrTop dp un gd cn cs L a₀ ccd cl outer) (call (.ref 536) [.ref lf, .none]) Q E s := by
  revert X; k_fill; intro X
  w_on
  refine wpAny_call ?_
  k_dflt ktr_enter
  k_steps
  rename Fr h₀ L _ m => kF
  rename News h₀ L _ _ => kN
  refine ret _ _ _ _ _ _ _ _ _ _ kF (cb_drop kN (by walk_at "c sub")) ?fr ⟨by assumption, by assumption⟩ rfl rfl
  simp only [Fresh, List.forall_mem_cons, List.not_mem_nil, false_implies, implies_true, and_true]
  (repeat' refine And.intro ?_ ?_) <;> first | tbn_find | exact allLt_of (by assumption) | exact tbn_up (by assumption) (by tbn_find)

theorem c_form1 (B : Below A₀ base outer h₀) (F : Fr h₀ L s.heap m) (X : (Mine.hd0.heap_1 w.params).In h₀) (N : News h₀ L s.heap news) (T : Top VW LS mean mg mb h₀) (hk : cs.kind = .function) (hd : dp + 16 < recursionLimit) (hu : un + 160 < cLine) {lf : Addr} {ff : Array Value} {nf : Nat} (hf : (lf, listOf ff nf) ∈ news) {l : Addr} {fl : Array Value} {nl : Nat} (hl : (l, listOf fl nl) ∈ news)
   (ret : ∀ x dx hh oh kvh oc k1 k2 h' tk', Fr h₀ L h' m → News h₀ L h' ((x, instObj 395 dx) :: (dx, streamObj w hh oc k1 k2) :: (hh, oh) :: news) → Fresh news [(x, instObj 395 dx), (dx, streamObj w hh oc k1 k2), (hh, oh)] → DictIs w hh oh kvh → valueAt kvh (PySem.Str.ofString "BBox") = some (.ref lf) → valueAt kvh (PySem.Str.ofString "Matrix") = some (.ref l) → Q (.ref x) { s with heap := h', toks := tk' }) : wpAny (model PySem.Challenge.rw_qz0079_01.row.prog w) (ktrTop dp un gd cn cs L a₀ ccd cl outer) (call (.ref 536) [.ref lf, .ref l]) Q E s := by
  revert X; k_fill; intro X
  w_on
  refine wpAny_call ?_
  k_dflt ktr_enter
  k_steps
  rename Fr h₀ L _ m => kF
  rename News h₀ L _ _ => kN
  refine ret _ _ _ _ _ _ _ _ _ _ kF (cb_drop kN (by walk_at "c sub")) ?fr ⟨by assumption, by assumption⟩ rfl rfl
  simp only [Fresh, List.forall_mem_cons, List.not_mem_nil, false_implies, implies_true, and_true]
  (repeat' refine And.intro ?_ ?_) <;> first | tbn_find | exact allLt_of (by assumption) | exact tbn_up (by assumption) (by tbn_find)

theorem c_head (B : Below A₀ base outer h₀) (F : Fr h₀ L s.heap m) (X : (Mine.hd0.heap_1 w.params).In h₀) (N : News h₀ L s.heap news) (T : Top VW LS mean mg mb h₀) (hk : cs.kind = .function) (hd : dp + 16 < recursionLimit) (hu : un + 160 < cLine) {x lt : Addr}
   (ret : ∀ d od kvd e oe kve h' tk', Fr h₀ L h' m → News h₀ L h' ((d, od) :: (e, oe) :: news) → Fresh news [(d, od), (e, oe)] → DictIs w d od kvd → DictIs w e oe kve → kvd = [(PySem.Str.ofString "AP", .ref e), (PySem.Str.ofString "Rect", .ref lt)] → kve = [(PySem.Str.ofString "N", .ref x)] → Q (.ref d) { s with heap := h', toks := tk' }) : wpAny (model PySem.Challenge.rw_qz0079_01.row.prog w) (ktrTop dp un gd cn cs L a₀ ccd cl outer) (call (.ref 543) [.ref x, .ref lt]) Q E s := by
  revert X; k_fill; intro X
  w_on
  refine wpAny_call ?_
  k_dflt ktr_enter
  k_steps
  rename Fr h₀ L _ m => kF
  rename News h₀ L _ _ => kN
  refine ret _ _ _ _ _ _ _ _ kF (cb_drop kN (by walk_at "c sub")) ?fr ⟨by assumption, by assumption⟩ ⟨by assumption, by assumption⟩ rfl rfl
  simp only [Fresh, List.forall_mem_cons, List.not_mem_nil, false_implies, implies_true, and_true]
  (repeat' refine And.intro ?_ ?_) <;> first | tbn_find | exact allLt_of (by assumption) | exact tbn_up (by assumption) (by tbn_find)
end
end PartC23
section PartC24
theorem lines_C24_1 : True := by
  k_with_none
  k_with "c mem" =>
    first | ((with_reducible refine' mem_here ?z645zh9); (case z645zh9 => exact rfl)) | ((with_reducible refine' mem_nth 1 ?z645zh9); (case z645zh9 => exact rfl)) | ((with_reducible refine' mem_nth 2 ?z645zh9); (case z645zh9 => exact rfl)) | ((with_reducible refine' mem_nth 3 ?z645zh9); (case z645zh9 => exact rfl)) | ((with_reducible refine' mem_nth 4 ?z645zh9); (case z645zh9 => exact rfl)) | ((with_reducible refine' mem_nth 5 ?z645zh9); (case z645zh9 => exact rfl)) | ((with_reducible refine' mem_nth 6 ?z645zh9); (case z645zh9 => exact rfl)) | ((with_reducible refine' mem_nth 7 ?z645zh9); (case z645zh9 => exact rfl)) | ((with_reducible refine' mem_nth 8 ?z645zh9); (case z645zh9 => exact rfl)) | ((with_reducible refine' mem_nth 9 ?z645zh9); (case z645zh9 => exact rfl)) | ((with_reducible refine' mem_skip ?_); walk_at "c mem") | (with_reducible exact List.mem_append_left _ (by with_reducible assumption)) | ktr_member | ((with_reducible refine' List.mem_cons_of_mem _ ?_); walk_at "c mem") | ((with_reducible refine' List.mem_append_right _ ?_); walk_at "c mem")
  k_with "c room" =>
    with_reducible first | assumption | exact room1 (by assumption) rfl | exact room2 (by assumption) rfl | exact room3 (by assumption) rfl | exact room4 (by assumption) rfl
  k_with "c le" =>
    with_reducible first | assumption | exact Nat.le_trans (by assumption) (by decide)
  k_with "c lt1" =>
    with_reducible first | assumption | exact cj0 | exact cj1 | exact cj2 | exact cj3 | exact cj4 | exact cj5 | exact cj6 | exact cj7 | exact cj8 | exact cj9 | exact cj10 | exact cj11 | exact cj12 | exact cj13 | exact cj14 | exact cj15 | exact cj16 | exact cj17 | exact cj18 | exact cj19 | exact cj20 | exact cj21 | exact cj22 | exact cj23 | exact And.right (by with_reducible assumption) | exact And.right (And.right (by with_reducible assumption)) | exact And.right (And.right (And.right (by with_reducible assumption))) | exact And.right (And.right (And.right (And.right (by with_reducible assumption))))
  k_with "c lt2" =>
    ((with_reducible refine' Nat.lt_trans ?z649za9 ?z649zb9); (case z649zb9 => with_reducible assumption); (case z649za9 => walk_at "c lt1"))
  k_with "c lt" =>
    first | walk_at "c lt1" | walk_at "c lt2"
  k_with "c up3" =>
    with_reducible first | exact abv3 (by assumption) | exact abv3_1 (by assumption) | exact abv3_2 (by assumption) | exact abv3_3 (by assumption) | exact abv3_4 (by assumption) | (refine' Abv3.tr ?z651za9 ?z651zb9; (case z651za9 => assumption); (case z651zb9 => walk_at "c up3"))
  k_with "c ne" =>
    first | with_reducible (first | assumption | exact And.left (by assumption) | exact Ne.symm (And.left (by assumption)) | exact And.left (And.right (by assumption)) | exact Ne.symm (And.left (And.right (by assumption))) | exact And.right (And.right (by assumption)) | exact Ne.symm (And.right (And.right (by assumption))) | exact neq_lt (by assumption) | exact neq_gt (by assumption) | exact nl0 | exact nr0 | exact nl1 | exact nr1 | exact nl2 | exact nr2 | exact nl3 | exact nr3 | exact nl4 | exact nr4 | exact nl5 | exact nr5 | exact nl6 | exact nr6 | exact nl7 | exact nr7 | exact nl8 | exact nr8 | exact nl9 | exact nr9 | exact nl10 | exact nr10 | exact nl11 | exact nr11 | exact nl12 | exact nr12 | exact nl13 | exact nr13 | exact nl14 | exact nr14 | exact nl15 | exact nr15 | exact nl16 | exact nr16 | exact nl17 | exact nr17 | exact nl18 | exact nr18 | exact nl19 | exact nr19 | exact nl20 | exact nr20 | exact nl21 | exact nr21 | exact nl22 | exact nr22 | exact nl23 | exact nr23) | ((with_reducible refine' neq_lt ?z652zz9); (case z652zz9 => walk_at "c lt2")) | ((with_reducible refine' neq_gt ?z652zz9); (case z652zz9 => walk_at "c lt2")) | ((try dsimp only); omega)
  k_with "c dp" =>
    ((try simp only [depth_under_make, depth_under_kw, depth_in1, depth_deeper, depth_caller]); (try dsimp only [ktrTop]); first | walk_at "c room" | omega | decide)
  k_with "c un" =>
    ((try simp only [units_make, units_in1, units_deeper, Around.mark_units, units_caller]); (try dsimp only [ktrTop]); first | walk_at "c room" | omega | decide)
  k_with "c sub" =>
    first | (refine List.forall_mem_cons.mpr ⟨?z655za, ?z655zb⟩; (case z655za => walk_at "c mem"); (case z655zb => walk_at "c sub")) | exact List.forall_mem_nil _ | (intro p9 h9; (repeat (first | exact h9 | refine List.mem_cons_of_mem _ ?_ | refine List.mem_append_left _ ?_)))
  k_with "c bnd" =>
    with_reducible (first | assumption | exact Bnd.pow _ | (refine' Bnd.fdiv ?z656za; (case z656za => walk_at "c bnd")) | (exact Bnd.mul (by walk_at "c bnd") (by walk_at "c bnd")) | (exact Bnd.add1 (by walk_at "c bnd") (by walk_at "c bnd")) | (exact Bnd.sub1 (by walk_at "c bnd") (by walk_at "c bnd")) | (exact Bnd.add (by walk_at "c bnd") (by walk_at "c bnd")) | (exact Bnd.sub (by walk_at "c bnd") (by walk_at "c bnd")))
  k_with "c ar" =>
    first | assumption | decide | omega | (split <;> omega)
  k_with "c mul" =>
    exact mulOk_bnd (by walk_at "c bnd") (by walk_at "c bnd") (by walk_at "c ar") (by walk_at "c ar")
  k_with "binaryOp Pow int int" =>
    ((with_reducible refine pow_int_small ?z659zkb1 ?z659zkb2 ?z659zkb3 ?_); (case z659zkb1 => walk_at "c ar"); (case z659zkb2 => walk_at "c ar"); (case z659zkb3 => decide))
  k_with "call ref" =>
    (k_here; (with_reducible show wpAny _ _ (call (Prod.fst _) (_ ++ _)) _ _ _); dsimp only [List.nil_append, List.cons_append])
  k_with "subscriptTail" =>
    (k_here; (with_reducible show wpAny _ _ (subscriptTail _ _ (Value.ref _) (Value.int _ _)) _ _ _); k_dflt (first
    | (refine' item_tupleT ?z661zt ?z661za ?z661zb ?z661zc ?z661zd ?_; (case z661zt => exact News.isTup (by k_asm) (by k_mem)); (case z661za => decide); (case z661zb => decide); (case z661zc => exact rfl); (case z661zd => exact rfl); k_whole)
    | (refine' c_item ?z661zN ?z661zm ?z661za ?z661zb ?z661zc ?_ ?z661zz; (case z661zN => k_asm); (case z661zm => k_mem); (case z661za => decide); (case z661zb => decide); (case z661zc => exact rfl); (case z661zz => with_unfolding_all rfl); k_whole)))
  k_with "subscriptTail Name Constant ref int" =>
    (k_here; (with_reducible show wpAny _ _ (subscriptTail _ _ (Value.ref _) (Value.int _ _)) _ _ _); k_dflt (first
    | (refine' item_tupleT ?z662zt ?z662za ?z662zb ?z662zc ?z662zd ?_; (case z662zt => exact News.isTup (by k_asm) (by k_mem)); (case z662za => decide); (case z662zb => decide); (case z662zc => exact rfl); (case z662zd => exact rfl); k_whole)
    | (refine' c_item ?z662zN ?z662zm ?z662za ?z662zb ?z662zc ?_ ?z662zz; (case z662zN => k_asm); (case z662zm => k_mem); (case z662za => decide); (case z662zb => decide); (case z662zc => exact rfl); (case z662zz => with_unfolding_all rfl); k_whole)))
  trivial
section
variable {w : World} {mean : ExcName → Option Value} {mg mb : PySem.Str → Option Value} {dp un : Nat} {gd : Option (List Code)} {cn : PySem.Str} {cs : Scope} {a₀ : Addr} {ccd : Value} {cl : List (PySem.Str × Addr)} {outer : List Env}
  {A₀ : Around} {base h₀ : Heap} {L : Addr} {m : PySem.Str → Option Value} {s : Shared} {news : List (Addr × Obj)} {Q E : Value → Shared → Prop}
theorem lines_C24_2 : True := by
  k_with "call ref" =>
    (k_here; (with_reducible show wpAny _ _ (call (Value.ref 155) [Value.int _ _, Value.int 0 _]) _ _ _); k_dflt (refine' c_new0 ?z663zcB ?z663zcF ?z663zcX ?z663zcN ?z663zcT ?z663zcK ?z663zcD ?z663zcU ?z663zp0 ?_; (case z663zcB => k_asm); (case z663zcF => k_asm); (case z663zcX => k_asm); (case z663zcN => k_asm); (case z663zcT => k_asm); (case z663zcK => first | exact rfl | assumption); (case z663zcD => walk_at "c dp"); (case z663zcU => walk_at "c un"); (case z663zp0 => walk_at "c bnd"); intro x' d' q1' q2' q3' q4' h' tk' F' N' l1 l2 hq'; (try simp only [AllLt, and_true] at l1); (try k_lt2 l2); (try k_sweep); (try dsimp only); (try k_fold)))
  k_with "call ref" =>
    (k_here; (with_reducible show wpAny _ _ (call (Value.ref 138) [Value.ref _]) _ _ _); k_dflt (refine' c_told ?z664zcB ?z664zcF ?z664zcX ?z664zcN ?z664zcT ?z664zcK ?z664zcD ?z664zcU ?z664zp0 ?z664zp1 ?z664zp2 ?_; (case z664zcB => k_asm); (case z664zcF => k_asm); (case z664zcX => k_asm); (case z664zcN => k_asm); (case z664zcT => k_asm); (case z664zcK => first | exact rfl | assumption); (case z664zcD => walk_at "c dp"); (case z664zcU => walk_at "c un"); (case z664zp0 => k_mem); (case z664zp1 => k_mem); (case z664zp2 => with_reducible assumption); intro t' i1' i2' h' tk' F' N' l1; (try simp only [AllLt, and_true] at l1); (try k_sweep); (try dsimp only); (try k_fold)))
  k_with "call ref" =>
    (k_here; (with_reducible show wpAny _ _ (call (Value.ref 257) [Value.ref _, Value.ref _, Value.ref _]) _ _ _); k_dflt (refine' c_applied ?z665zcB ?z665zcF ?z665zcX ?z665zcN ?z665zcT ?z665zcK ?z665zcD ?z665zcU ?z665zp0 ?z665zp1 ?z665zp2 ?z665zp3 ?z665zp4 ?z665zp5 ?z665zp6 ?z665zp7 ?z665zp8 ?z665zp9 ?z665zp10 ?z665zp11 ?z665zp12 ?z665zp13 ?z665zp14 ?z665zp15 ?z665zp16 ?z665zp17 ?z665zp18 ?z665zp19 ?z665zp20 ?z665zp21 ?z665zp22 ?z665zp23 ?z665zp24 ?z665zp25 ?z665zp26 ?z665zp27 ?z665zp28 ?_; (case z665zcB => k_asm); (case z665zcF => k_asm); (case z665zcX => k_asm); (case z665zcN => k_asm); (case z665zcT => k_asm); (case z665zcK => first | exact rfl | assumption); (case z665zcD => walk_at "c dp"); (case z665zcU => walk_at "c un"); (case z665zp0 => k_mem); (case z665zp1 => k_mem); (case z665zp2 => k_mem); (case z665zp3 => k_mem); (case z665zp4 => with_reducible assumption); (case z665zp5 => k_mem); (case z665zp6 => k_mem); (case z665zp7 => with_reducible assumption); (case z665zp8 => k_mem); (case z665zp9 => k_mem); (case z665zp10 => with_reducible assumption); (case z665zp11 => k_mem); (case z665zp12 => k_mem); (case z665zp13 => with_reducible assumption); (case z665zp14 => k_mem); (case z665zp15 => k_mem); (case z665zp16 => with_reducible assumption); (case z665zp17 => k_mem); (case z665zp18 => k_mem); (case z665zp19 => with_reducible assumption); (case z665zp20 => k_mem); (case z665zp21 => k_mem); (case z665zp22 => with_reducible assumption); (case z665zp23 => k_mem); (case z665zp24 => k_mem); (case z665zp25 => with_reducible assumption); (case z665zp26 => first | walk_at "c le" | decide | omega); (case z665zp27 => first | walk_at "c le" | decide | omega); (case z665zp28 => first | walk_at "c le" | decide | omega); intro t' u' du' v' dv' ku1' ku2' ku3' ku4' kv1' kv2' kv3' kv4' h' tk' F' N' l1 l2 l3 l4 l5 hq1' hq2'; (try simp only [AllLt, and_true] at l1); (try k_sweep); (try dsimp only); (try k_fold)))
  trivial

theorem c_point (B : Below A₀ base outer h₀) (F : Fr h₀ L s.heap m) (X : (Mine.hd0.heap_1 w.params).In h₀) (N : News h₀ L s.heap news) (T : Top VW LS mean mg mb h₀) (hk : cs.kind = .function) (hd : dp + 40 < recursionLimit) (hu : un + 400 < cLine) {z dz : Addr} {za zb zc zd ze zf : Addr} {dza dzb dzc dzd dze dzf : Addr} {qa qb qc qd qe qf : Rat} {n : Nat} {kz1 kz2 kz3 kz4 kz5 kz6 : Tok} {kza1 kza2 kza3 kza4 kzb1 kzb2 kzb3 kzb4 kzc1 kzc2 kzc3 kzc4 kzd1 kzd2 kzd3 kzd4 kze1 kze2 kze3 kze4 kzf1 kzf2 kzf3 kzf4 : Tok} (hz : (z, instObj 279 dz) ∈ news) (hdz : (dz, matObj w za zb zc zd ze zf kz1 kz2 kz3 kz4 kz5 kz6) ∈ news) (hza : (za, instObj 155 dza) ∈ news) (hdza : (dza, decObj w qa kza1 kza2 kza3 kza4) ∈ news) (hqza : DecQ qa n) (hzb : (zb, instObj 155 dzb) ∈ news) (hdzb : (dzb, decObj w qb kzb1 kzb2 kzb3 kzb4) ∈ news) (hqzb : DecQ qb n) (hzc : (zc, instObj 155 dzc) ∈ news) (hdzc : (dzc, decObj w qc kzc1 kzc2 kzc3 kzc4) ∈ news) (hqzc : DecQ qc n) (hzd : (zd, instObj 155 dzd) ∈ news) (hdzd : (dzd, decObj w qd kzd1 kzd2 kzd3 kzd4) ∈ news) (hqzd : DecQ qd n) (hze : (ze, instObj 155 dze) ∈ news) (hdze : (dze, decObj w qe kze1 kze2 kze3 kze4) ∈ news) (hqze : DecQ qe n) (hzf : (zf, instObj 155 dzf) ∈ news) (hdzf : (dzf, decObj w qf kzf1 kzf2 kzf3 kzf4) ∈ news) (hqzf : DecQ qf n) (hn : n ≤ 300) {x y : Int} {tx ty : Tok} (bx : Bnd x 3) (by_ : Bnd y 3)
    (ret : ∀ t t1 t2 i1 j1 i2 j2 h' tk', Fr h₀ L h' m → News h₀ L h' ((t, ({ cls := .type "tuple", data := .seq #[.ref t1, .ref t2] } : Obj)) :: (t1, ({ cls := .type "tuple", data := .seq #[.int (dtop (qa * (x : Rat) + qc * (y : Rat) + qe)) i1, .int (dplc (qa * (x : Rat) + qc * (y : Rat) + qe)) j1] } : Obj)) :: (t2, ({ cls := .type "tuple", data := .seq #[.int (dtop (qb * (x : Rat) + qd * (y : Rat) + qf)) i2, .int (dplc (qb * (x : Rat) + qd * (y : Rat) + qf)) j2] } : Obj)) :: news) → Q (.ref t) { s with heap := h', toks := tk' }) : wpAny (model PySem.Challenge.rw_qz0079_01.row.prog w) (ktrTop dp un gd cn cs L a₀ ccd cl outer) (call (.ref 550) [.ref z, .int x tx, .int y ty]) Q E s := by
  revert X; k_fill; intro X
  w_on
  refine wpAny_call ?_
  k_dflt ktr_enter
  k_steps
  rename Fr h₀ L _ m => kF
  rename News h₀ L _ _ => kN
  exact ret _ _ _ _ _ _ _ _ _ kF (cb_drop kN (by walk_at "c sub"))

end
end PartC24
section PartC25
/-- a Matrix of the ledger's that stands for six rationals -/
inductive MatIs (w : World) (M : List (Addr × Obj)) (x : Addr) (qa qb qc qd qe qf : Rat) : Prop
  | mk (dx : _) (k1 : _) (k2 : _) (k3 : _) (k4 : _) (k5 : _) (k6 : _) (a : _) (da : _) (ka1 : _) (ka2 : _) (ka3 : _) (ka4 : _) (b : _) (db : _) (kb1 : _) (kb2 : _) (kb3 : _) (kb4 : _) (c : _) (dc : _) (kc1 : _) (kc2 : _) (kc3 : _) (kc4 : _) (d : _) (dd : _) (kd1 : _) (kd2 : _) (kd3 : _) (kd4 : _) (e : _) (de : _) (ke1 : _) (ke2 : _) (ke3 : _) (ke4 : _) (f : _) (df : _) (kf1 : _) (kf2 : _) (kf3 : _) (kf4 : _) (h0 : (x, instObj 279 dx) ∈ M) (h1 : (dx, matObj w a b c d e f k1 k2 k3 k4 k5 k6) ∈ M) (h2 : (a, instObj 155 da) ∈ M) (h3 : (da, decObj w qa ka1 ka2 ka3 ka4) ∈ M) (h4 : DecQ qa 213) (h5 : (b, instObj 155 db) ∈ M) (h6 : (db, decObj w qb kb1 kb2 kb3 kb4) ∈ M) (h7 : DecQ qb 213) (h8 : (c, instObj 155 dc) ∈ M) (h9 : (dc, decObj w qc kc1 kc2 kc3 kc4) ∈ M) (h10 : DecQ qc 213) (h11 : (d, instObj 155 dd) ∈ M) (h12 : (dd, decObj w qd kd1 kd2 kd3 kd4) ∈ M) (h13 : DecQ qd 213) (h14 : (e, instObj 155 de) ∈ M) (h15 : (de, decObj w qe ke1 ke2 ke3 ke4) ∈ M) (h16 : DecQ qe 213) (h17 : (f, instObj 155 df) ∈ M) (h18 : (df, decObj w qf kf1 kf2 kf3 kf4) ∈ M) (h19 : DecQ qf 213) : MatIs w M x qa qb qc qd qe qf
/-- a form -/
inductive FormIs (w : World) (M : List (Addr × Obj)) (x : Addr) (fa fb fc fd ma mb mc md me mf : Int) : Prop
  | mk (dx : _) (hh : _) (oc : _) (k1 : _) (k2 : _) (ohh : _) (kvh : _) (lf : _) (nf : _) (u1 : _) (u2 : _) (u3 : _) (u4 : _) (h0 : (x, instObj 395 dx) ∈ M) (h1 : (dx, streamObj w hh oc k1 k2) ∈ M) (h2 : (hh, ohh) ∈ M) (h3 : DictIs w hh ohh kvh) (h4 : (lf, listOf #[.int fa u1, .int fb u2, .int fc u3, .int fd u4] nf) ∈ M) (h5 : valueAt kvh (PySem.Str.ofString "BBox") = some (.ref lf)) (h6 : FormM M kvh ma mb mc md me mf) : FormIs w M x fa fb fc fd ma mb mc md me mf
/-- an annotation's head -/
inductive HeadIs (w : World) (M : List (Addr × Obj)) (d : Addr) (fa fb fc fd ma mb mc md me mf ta tb tc td : Int) : Prop
  | mk (od : _) (kvd : _) (e : _) (oe : _) (kve : _) (x : _) (lt : _) (nt : _) (v1 : _) (v2 : _) (v3 : _) (v4 : _) (h0 : (d, od) ∈ M) (h1 : DictIs w d od kvd) (h2 : (e, oe) ∈ M) (h3 : DictIs w e oe kve) (h4 : valueAt kvd (PySem.Str.ofString "AP") = some (.ref e)) (h5 : valueAt kvd (PySem.Str.ofString "Rect") = some (.ref lt)) (h6 : kve = [(PySem.Str.ofString "N", .ref x)]) (h7 : (lt, listOf #[.int ta v1, .int tb v2, .int tc v3, .int td v4] nt) ∈ M) (h8 : FormIs w M x fa fb fc fd ma mb mc md me mf) : HeadIs w M d fa fb fc fd ma mb mc md me mf ta tb tc td
/-- what the law has picked for numbers -/
inductive NumIs (M : List (Addr × Obj)) : Value → Int → Int → Int → Int → Int → Int → Prop
  | none : NumIs M .none 1 0 0 1 0 0
  | some {l : Addr} {n : Nat} {a b c d e f : Int} {ta tb tc td te tf : Tok} (hl : (l, listOf #[.int a ta, .int b tb, .int c tc, .int d td, .int e te, .int f tf] n) ∈ M) : NumIs M (.ref l) a b c d e f

theorem MatIs.mono {w : World} {M M' : List (Addr × Obj)} {x : Addr} {qa qb qc qd qe qf : Rat} (h : MatIs w M x qa qb qc qd qe qf) (hs : ∀ p ∈ M, p ∈ M') : MatIs w M' x qa qb qc qd qe qf := by
  obtain ⟨dx, k1, k2, k3, k4, k5, k6, a, da, ka1, ka2, ka3, ka4, b, db, kb1, kb2, kb3, kb4, c, dc, kc1, kc2, kc3, kc4, d, dd, kd1, kd2, kd3, kd4, e, de, ke1, ke2, ke3, ke4, f, df, kf1, kf2, kf3, kf4, h0, h1, h2, h3, h4, h5, h6, h7, h8, h9, h10, h11, h12, h13, h14, h15, h16, h17, h18, h19⟩ := h
  exact ⟨_, _, _, _, _, _, _, _, _, _, _, _, _, _, _, _, _, _, _, _, _, _, _, _, _, _, _, _, _, _, _, _, _, _, _, _, _, _, _, _, _, _, _, hs _ h0, hs _ h1, hs _ h2, hs _ h3, h4, hs _ h5, hs _ h6, h7, hs _ h8, hs _ h9, h10, hs _ h11, hs _ h12, h13, hs _ h14, hs _ h15, h16, hs _ h17, hs _ h18, h19⟩
theorem FormIs.mono {w : World} {M M' : List (Addr × Obj)} {x : Addr} {fa fb fc fd ma mb mc md me mf : Int} (h : FormIs w M x fa fb fc fd ma mb mc md me mf) (hs : ∀ p ∈ M, p ∈ M') : FormIs w M' x fa fb fc fd ma mb mc md me mf := by
  obtain ⟨dx, hh, oc, k1, k2, ohh, kvh, lf, nf, u1, u2, u3, u4, a1, a2, a3, a4, a5, a6, a7⟩ := h
  exact ⟨_, _, _, _, _, _, _, _, _, _, _, _, _, hs _ a1, hs _ a2, hs _ a3, a4, hs _ a5, a6, a7.mono hs⟩
theorem HeadIs.mono {w : World} {M M' : List (Addr × Obj)} {d : Addr} {fa fb fc fd ma mb mc md me mf ta tb tc td : Int} (h : HeadIs w M d fa fb fc fd ma mb mc md me mf ta tb tc td) (hs : ∀ p ∈ M, p ∈ M') : HeadIs w M' d fa fb fc fd ma mb mc md me mf ta tb tc td := by
  obtain ⟨od, kvd, e, oe, kve, x, lt, nt, v1, v2, v3, v4, a1, a2, a3, a4, a5, a6, a7, a8, a9⟩ := h
  exact ⟨_, _, _, _, _, _, _, _, _, _, _, _, hs _ a1, a2, hs _ a3, a4, a5, a6, a7, hs _ a8, a9.mono hs⟩
theorem NumIs.mono {M M' : List (Addr × Obj)} {v : Value} {a b c d e f : Int} (h : NumIs M v a b c d e f) (hs : ∀ p ∈ M, p ∈ M') : NumIs M' v a b c d e f := by
  cases h with
  | none => exact .none
  | some hl => exact .some (hs _ hl)
theorem fresh_up {led M : List (Addr × Obj)} {p : Addr} {P : Obj} (h : Fresh led M) (hm : (p, P) ∈ led) : ∀ q ∈ M, @LT.lt Nat _ p q.1 := fun q hq => tb_ltOf (h q hq) _ hm
theorem valueAt_one (k way : PySem.Str) (v : Value) : valueAt [(k, v)] way = some v ∨ valueAt [(k, v)] way = none := by
  unfold valueAt
  by_cases h : k = way
  · left; simp [h]
  · right; simp [h]
theorem lines_C25_1 : True := by
  k_with_none
  k_with "c mem" =>
    first | ((with_reducible refine' mem_here ?z666zh9); (case z666zh9 => exact rfl)) | ((with_reducible refine' mem_nth 1 ?z666zh9); (case z666zh9 => exact rfl)) | ((with_reducible refine' mem_nth 2 ?z666zh9); (case z666zh9 => exact rfl)) | ((with_reducible refine' mem_nth 3 ?z666zh9); (case z666zh9 => exact rfl)) | ((with_reducible refine' mem_nth 4 ?z666zh9); (case z666zh9 => exact rfl)) | ((with_reducible refine' mem_nth 5 ?z666zh9); (case z666zh9 => exact rfl)) | ((with_reducible refine' mem_nth 6 ?z666zh9); (case z666zh9 => exact rfl)) | ((with_reducible refine' mem_nth 7 ?z666zh9); (case z666zh9 => exact rfl)) | ((with_reducible refine' mem_nth 8 ?z666zh9); (case z666zh9 => exact rfl)) | ((with_reducible refine' mem_nth 9 ?z666zh9); (case z666zh9 => exact rfl)) | ((with_reducible refine' mem_skip ?_); walk_at "c mem") | (with_reducible exact List.mem_append_left _ (by with_reducible assumption)) | ktr_member | ((with_reducible refine' List.mem_cons_of_mem _ ?_); walk_at "c mem") | ((with_reducible refine' List.mem_append_right _ ?_); walk_at "c mem")
  k_with "c room" =>
    with_reducible first | assumption | exact room1 (by assumption) rfl | exact room2 (by assumption) rfl | exact room3 (by assumption) rfl | exact room4 (by assumption) rfl
  k_with "c le" =>
    with_reducible first | assumption | exact Nat.le_trans (by assumption) (by decide)
  k_with "c lt1" =>
    with_reducible first | assumption | exact cj0 | exact cj1 | exact cj2 | exact cj3 | exact cj4 | exact cj5 | exact cj6 | exact cj7 | exact cj8 | exact cj9 | exact cj10 | exact cj11 | exact cj12 | exact cj13 | exact cj14 | exact cj15 | exact cj16 | exact cj17 | exact cj18 | exact cj19 | exact cj20 | exact cj21 | exact cj22 | exact cj23 | exact And.right (by with_reducible assumption) | exact And.right (And.right (by with_reducible assumption)) | exact And.right (And.right (And.right (by with_reducible assumption))) | exact And.right (And.right (And.right (And.right (by with_reducible assumption))))
  k_with "c lt2" =>
    ((with_reducible refine' Nat.lt_trans ?z670za9 ?z670zb9); (case z670zb9 => with_reducible assumption); (case z670za9 => walk_at "c lt1"))
  k_with "c lt" =>
    first | walk_at "c lt1" | walk_at "c lt2"
  k_with "c up3" =>
    with_reducible first | exact abv3 (by assumption) | exact abv3_1 (by assumption) | exact abv3_2 (by assumption) | exact abv3_3 (by assumption) | exact abv3_4 (by assumption) | (refine' Abv3.tr ?z672za9 ?z672zb9; (case z672za9 => assumption); (case z672zb9 => walk_at "c up3"))
  k_with "c ne" =>
    first | with_reducible (first | assumption | exact And.left (by assumption) | exact Ne.symm (And.left (by assumption)) | exact And.left (And.right (by assumption)) | exact Ne.symm (And.left (And.right (by assumption))) | exact And.right (And.right (by assumption)) | exact Ne.symm (And.right (And.right (by assumption))) | exact neq_lt (by assumption) | exact neq_gt (by assumption) | exact nl0 | exact nr0 | exact nl1 | exact nr1 | exact nl2 | exact nr2 | exact nl3 | exact nr3 | exact nl4 | exact nr4 | exact nl5 | exact nr5 | exact nl6 | exact nr6 | exact nl7 | exact nr7 | exact nl8 | exact nr8 | exact nl9 | exact nr9 | exact nl10 | exact nr10 | exact nl11 | exact nr11 | exact nl12 | exact nr12 | exact nl13 | exact nr13 | exact nl14 | exact nr14 | exact nl15 | exact nr15 | exact nl16 | exact nr16 | exact nl17 | exact nr17 | exact nl18 | exact nr18 | exact nl19 | exact nr19 | exact nl20 | exact nr20 | exact nl21 | exact nr21 | exact nl22 | exact nr22 | exact nl23 | exact nr23) | ((with_reducible refine' neq_lt ?z673zz9); (case z673zz9 => walk_at "c lt2")) | ((with_reducible refine' neq_gt ?z673zz9); (case z673zz9 => walk_at "c lt2")) | ((try dsimp only); omega)
  k_with "c dp" =>
    ((try simp only [depth_under_make, depth_under_kw, depth_in1, depth_deeper, depth_caller]); (try dsimp only [ktrTop]); first | walk_at "c room" | omega | decide)
  k_with "c un" =>
    ((try simp only [units_make, units_in1, units_deeper, Around.mark_units, units_caller]); (try dsimp only [ktrTop]); first | walk_at "c room" | omega | decide)
  k_with "c sub" =>
    first | (refine List.forall_mem_cons.mpr ⟨?z676za, ?z676zb⟩; (case z676za => walk_at "c mem"); (case z676zb => walk_at "c sub")) | exact List.forall_mem_nil _ | (intro p9 h9; (repeat (first | exact h9 | refine List.mem_cons_of_mem _ ?_ | refine List.mem_append_left _ ?_)))
  k_with "c bnd" =>
    with_reducible (first | assumption | exact Bnd.pow _ | (refine' Bnd.fdiv ?z677za; (case z677za => walk_at "c bnd")) | (exact Bnd.mul (by walk_at "c bnd") (by walk_at "c bnd")) | (exact Bnd.add1 (by walk_at "c bnd") (by walk_at "c bnd")) | (exact Bnd.sub1 (by walk_at "c bnd") (by walk_at "c bnd")) | (exact Bnd.add (by walk_at "c bnd") (by walk_at "c bnd")) | (exact Bnd.sub (by walk_at "c bnd") (by walk_at "c bnd")))
  k_with "c ar" =>
    first | assumption | decide | omega | (split <;> omega)
  k_with "c mul" =>
    exact mulOk_bnd (by walk_at "c bnd") (by walk_at "c bnd") (by walk_at "c ar") (by walk_at "c ar")
  k_with "binaryOp Pow int int" =>
    ((with_reducible refine pow_int_small ?z680zkb1 ?z680zkb2 ?z680zkb3 ?_); (case z680zkb1 => walk_at "c ar"); (case z680zkb2 => walk_at "c ar"); (case z680zkb3 => decide))
  k_with "call ref" =>
    (k_here; (with_reducible show wpAny _ _ (call (Prod.fst _) (_ ++ _)) _ _ _); dsimp only [List.nil_append, List.cons_append])
  k_with "subscriptTail" =>
    (k_here; (with_reducible show wpAny _ _ (subscriptTail _ _ (Value.ref _) (Value.int _ _)) _ _ _); k_dflt (first
    | (refine' item_tupleT ?z682zt ?z682za ?z682zb ?z682zc ?z682zd ?_; (case z682zt => exact News.isTup (by k_asm) (by k_mem)); (case z682za => decide); (case z682zb => decide); (case z682zc => exact rfl); (case z682zd => exact rfl); k_whole)
    | (refine' c_item ?z682zN ?z682zm ?z682za ?z682zb ?z682zc ?_ ?z682zz; (case z682zN => k_asm); (case z682zm => k_mem); (case z682za => decide); (case z682zb => decide); (case z682zc => exact rfl); (case z682zz => with_unfolding_all rfl); k_whole)))
  k_with "subscriptTail Name Constant ref int" =>
    (k_here; (with_reducible show wpAny _ _ (subscriptTail _ _ (Value.ref _) (Value.int _ _)) _ _ _); k_dflt (first
    | (refine' item_tupleT ?z683zt ?z683za ?z683zb ?z683zc ?z683zd ?_; (case z683zt => exact News.isTup (by k_asm) (by k_mem)); (case z683za => decide); (case z683zb => decide); (case z683zc => exact rfl); (case z683zd => exact rfl); k_whole)
    | (refine' c_item ?z683zN ?z683zm ?z683za ?z683zb ?z683zc ?_ ?z683zz; (case z683zN => k_asm); (case z683zm => k_mem); (case z683za => decide); (case z683zb => decide); (case z683zc => exact rfl); (case z683zz => with_unfolding_all rfl); k_whole)))
  trivial
section
variable {w : World} {mean : ExcName → Option Value} {mg mb : PySem.Str → Option Value} {dp un : Nat} {gd : Option (List Code)} {cn : PySem.Str} {cs : Scope} {a₀ : Addr} {ccd : Value} {cl : List (PySem.Str × Addr)} {outer : List Env}
  {A₀ : Around} {base h₀ : Heap} {L : Addr} {m : PySem.Str → Option Value} {s : Shared} {news : List (Addr × Obj)} {Q E : Value → Shared → Prop}

theorem c_placed3 (B : Below A₀ base outer h₀) (F : Fr h₀ L s.heap m) (X : (Mine.hd0.heap_1 w.params).In h₀) (N : News h₀ L s.heap news) (T : Top VW LS mean mg mb h₀) (hk : cs.kind = .function) (hd : dp + 75 < recursionLimit) (hu : un + 750 < cLine) {sh dsh tb tr : Addr} {ks1 ks2 : Tok} (hsh : (sh, instObj 473 dsh) ∈ news) (hdsh : (dsh, shelfObj w tb tr ks1 ks2) ∈ news) {out : List (Addr × Obj)} (hs : ∀ q ∈ out, q ∈ news) {d : Addr} {fa fb fc fd ma mb mc md me mf ta tb tc td : Int} (hH : HeadIs w out d fa fb fc fd ma mb mc md me mf ta tb tc td) (hF : Box4 fa fb fc fd) (hT : Box4 ta tb tc td) (hm6 : Mat6 ma mb mc md me mf) (gx : spanOf ma mc me fa fb fc fd = 0 ∨ Nice (spanOf ma mc me fa fb fc fd)) (gy : spanOf mb md mf fa fb fc fd = 0 ∨ Nice (spanOf mb md mf fa fb fc fd)) {pl : Int} {tp : Tok} (ret : ∀ x M qa qb qc qd qe qf h' tk', Fr h₀ L h' m → News h₀ L h' (M ++ news) → Fresh news M → MatIs w M x qa qb qc qd qe qf → IsAM fa fb fc fd ma mb mc md me mf ta tb tc td qa qb qc qd qe qf → Q (.ref x) { s with heap := h', toks := tk' }) : wpAny (model PySem.Challenge.rw_qz0079_01.row.prog w) (ktrTop dp un gd cn cs L a₀ ccd cl outer) (call (.ref 510) [.ref sh, .ref d, .int pl tp]) Q E s := by
  obtain ⟨zod, zkvd, ze, zoe, zkve, zx, zlt, znt, zv1, zv2, zv3, zv4, a1, a2, a3, a4, a5, a6, a7, a8, a9⟩ := hH
  obtain ⟨ydx, yhh, yoc, yk1, yk2, yohh, ykvh, ylf, ynf, yu1, yu2, yu3, yu4, b1, b2, b3, b4, b5, b6, b7⟩ := a9
  subst a7
  refine c_pl3 B F X N T hk hd hu hsh hdsh (hs _ a1) a2 (hs _ a3) a4 (hs _ b1) (hs _ b2) (hs _ b3) b4 (hs _ b5) (hs _ a8) a5 a6 b6 (b7.mono hs) hF hT hm6 gx gy rfl (fun qa qb qc qd qe qf hAM => ?_)
  intro x dx k1 k2 k3 k4 k5 k6 a da ka1 ka2 ka3 ka4 b db kb1 kb2 kb3 kb4 c dc kc1 kc2 kc3 kc4 d dd kd1 kd2 kd3 kd4 e de ke1 ke2 ke3 ke4 f df kf1 kf2 kf3 kf4 h' tk' F' N' l1 j1 j2 j3 j4 j5 j6
  exact ret x _ _ _ _ _ _ _ h' tk' F' N' l1 ⟨dx, k1, k2, k3, k4, k5, k6, a, da, ka1, ka2, ka3, ka4, b, db, kb1, kb2, kb3, kb4, c, dc, kc1, kc2, kc3, kc4, d, dd, kd1, kd2, kd3, kd4, e, de, ke1, ke2, ke3, ke4, f, df, kf1, kf2, kf3, kf4, (.head _), (.tail _ (.head _)), (.tail _ (.tail _ (.head _))), (.tail _ (.tail _ (.tail _ (.head _)))), j1, (.tail _ (.tail _ (.tail _ (.tail _ (.head _))))), (.tail _ (.tail _ (.tail _ (.tail _ (.tail _ (.head _)))))), j2, (.tail _ (.tail _ (.tail _ (.tail _ (.tail _ (.tail _ (.head _))))))), (.tail _ (.tail _ (.tail _ (.tail _ (.tail _ (.tail _ (.tail _ (.head _)))))))), j3, (.tail _ (.tail _ (.tail _ (.tail _ (.tail _ (.tail _ (.tail _ (.tail _ (.head _))))))))), (.tail _ (.tail _ (.tail _ (.tail _ (.tail _ (.tail _ (.tail _ (.tail _ (.tail _ (.head _)))))))))), j4, (.tail _ (.tail _ (.tail _ (.tail _ (.tail _ (.tail _ (.tail _ (.tail _ (.tail _ (.tail _ (.head _))))))))))), (.tail _ (.tail _ (.tail _ (.tail _ (.tail _ (.tail _ (.tail _ (.tail _ (.tail _ (.tail _ (.tail _ (.head _)))))))))))), j5, (.tail _ (.tail _ (.tail _ (.tail _ (.tail _ (.tail _ (.tail _ (.tail _ (.tail _ (.tail _ (.tail _ (.tail _ (.head _))))))))))))), (.tail _ (.tail _ (.tail _ (.tail _ (.tail _ (.tail _ (.tail _ (.tail _ (.tail _ (.tail _ (.tail _ (.tail _ (.tail _ (.head _)))))))))))))), j6⟩ hAM

theorem c_placed4 (B : Below A₀ base outer h₀) (F : Fr h₀ L s.heap m) (X : (Mine.hd0.heap_1 w.params).In h₀) (N : News h₀ L s.heap news) (T : Top VW LS mean mg mb h₀) (hk : cs.kind = .function) (hd : dp + 75 < recursionLimit) (hu : un + 750 < cLine) {sh dsh tb tr : Addr} {ks1 ks2 : Tok} (hsh : (sh, instObj 473 dsh) ∈ news) (hdsh : (dsh, shelfObj w tb tr ks1 ks2) ∈ news) {out : List (Addr × Obj)} (hs : ∀ q ∈ out, q ∈ news) {d : Addr} {fa fb fc fd ma mb mc md me mf ta tb tc td : Int} (hH : HeadIs w out d fa fb fc fd ma mb mc md me mf ta tb tc td) (hF : Box4 fa fb fc fd) (hT : Box4 ta tb tc td) (hm6 : Mat6 ma mb mc md me mf) (gx : spanOf ma mc me fa fb fc fd = 0 ∨ Nice (spanOf ma mc me fa fb fc fd)) (gy : spanOf mb md mf fa fb fc fd = 0 ∨ Nice (spanOf mb md mf fa fb fc fd)) {pl : Int} {tp : Tok} {way : PySem.Str} {tw : Tok} (ret : ∀ x M qa qb qc qd qe qf h' tk', Fr h₀ L h' m → News h₀ L h' (M ++ news) → Fresh news M → MatIs w M x qa qb qc qd qe qf → IsAM fa fb fc fd ma mb mc md me mf ta tb tc td qa qb qc qd qe qf → Q (.ref x) { s with heap := h', toks := tk' }) : wpAny (model PySem.Challenge.rw_qz0079_01.row.prog w) (ktrTop dp un gd cn cs L a₀ ccd cl outer) (call (.ref 510) [.ref sh, .ref d, .int pl tp, .str way tw]) Q E s := by
  obtain ⟨zod, zkvd, ze, zoe, zkve, zx, zlt, znt, zv1, zv2, zv3, zv4, a1, a2, a3, a4, a5, a6, a7, a8, a9⟩ := hH
  obtain ⟨ydx, yhh, yoc, yk1, yk2, yohh, ykvh, ylf, ynf, yu1, yu2, yu3, yu4, b1, b2, b3, b4, b5, b6, b7⟩ := a9
  subst a7
  refine c_pl4 B F X N T hk hd hu hsh hdsh (hs _ a1) a2 (hs _ a3) a4 (hs _ b1) (hs _ b2) (hs _ b3) b4 (hs _ b5) (hs _ a8) a5 a6 b6 (b7.mono hs) hF hT hm6 gx gy (valueAt_one _ _ _) rfl (fun qa qb qc qd qe qf hAM => ?_)
  intro x dx k1 k2 k3 k4 k5 k6 a da ka1 ka2 ka3 ka4 b db kb1 kb2 kb3 kb4 c dc kc1 kc2 kc3 kc4 d dd kd1 kd2 kd3 kd4 e de ke1 ke2 ke3 ke4 f df kf1 kf2 kf3 kf4 h' tk' F' N' l1 j1 j2 j3 j4 j5 j6
  exact ret x _ _ _ _ _ _ _ h' tk' F' N' l1 ⟨dx, k1, k2, k3, k4, k5, k6, a, da, ka1, ka2, ka3, ka4, b, db, kb1, kb2, kb3, kb4, c, dc, kc1, kc2, kc3, kc4, d, dd, kd1, kd2, kd3, kd4, e, de, ke1, ke2, ke3, ke4, f, df, kf1, kf2, kf3, kf4, (.head _), (.tail _ (.head _)), (.tail _ (.tail _ (.head _))), (.tail _ (.tail _ (.tail _ (.head _)))), j1, (.tail _ (.tail _ (.tail _ (.tail _ (.head _))))), (.tail _ (.tail _ (.tail _ (.tail _ (.tail _ (.head _)))))), j2, (.tail _ (.tail _ (.tail _ (.tail _ (.tail _ (.tail _ (.head _))))))), (.tail _ (.tail _ (.tail _ (.tail _ (.tail _ (.tail _ (.tail _ (.head _)))))))), j3, (.tail _ (.tail _ (.tail _ (.tail _ (.tail _ (.tail _ (.tail _ (.tail _ (.head _))))))))), (.tail _ (.tail _ (.tail _ (.tail _ (.tail _ (.tail _ (.tail _ (.tail _ (.tail _ (.head _)))))))))), j4, (.tail _ (.tail _ (.tail _ (.tail _ (.tail _ (.tail _ (.tail _ (.tail _ (.tail _ (.tail _ (.head _))))))))))), (.tail _ (.tail _ (.tail _ (.tail _ (.tail _ (.tail _ (.tail _ (.tail _ (.tail _ (.tail _ (.tail _ (.head _)))))))))))), j5, (.tail _ (.tail _ (.tail _ (.tail _ (.tail _ (.tail _ (.tail _ (.tail _ (.tail _ (.tail _ (.tail _ (.tail _ (.head _))))))))))))), (.tail _ (.tail _ (.tail _ (.tail _ (.tail _ (.tail _ (.tail _ (.tail _ (.tail _ (.tail _ (.tail _ (.tail _ (.tail _ (.head _)))))))))))))), j6⟩ hAM


theorem c_formN (B : Below A₀ base outer h₀) (F : Fr h₀ L s.heap m) (X : (Mine.hd0.heap_1 w.params).In h₀) (N : News h₀ L s.heap news) (T : Top VW LS mean mg mb h₀) (hk : cs.kind = .function) (hd : dp + 16 < recursionLimit) (hu : un + 160 < cLine) {out : List (Addr × Obj)} (hs : ∀ q ∈ out, q ∈ news) {lf : Addr} {nf : Nat} {u1 u2 u3 u4 : Tok} {fa fb fc fd ma mb mc md me mf : Int} {v : Value} (hlf : (lf, listOf #[.int fa u1, .int fb u2, .int fc u3, .int fd u4] nf) ∈ out) (hv : NumIs out v ma mb mc md me mf)
   (ret : ∀ x M h' tk', Fr h₀ L h' m → News h₀ L h' (M ++ news) → Fresh news M → FormIs w (M ++ out) x fa fb fc fd ma mb mc md me mf → Q (.ref x) { s with heap := h', toks := tk' }) : wpAny (model PySem.Challenge.rw_qz0079_01.row.prog w) (ktrTop dp un gd cn cs L a₀ ccd cl outer) (call (.ref 536) [.ref lf, v]) Q E s := by
  cases hv with
  | none =>
    refine c_form0 B F X N T hk hd hu (hs _ hlf) (fun x dx hh oh kvh oc k1 k2 h' tk' F' N' l1 d1 e1 e2 => ?_)
    exact ret x _ h' tk' F' N' l1 ⟨dx, hh, oc, k1, k2, oh, kvh, lf, nf, u1, u2, u3, u4, (.head _), (.tail _ (.head _)), (.tail _ (.tail _ (.head _))), d1, List.mem_append_right _ hlf, e1, .plain e2⟩
  | some hl =>
    refine c_form1 B F X N T hk hd hu (hs _ hlf) (hs _ hl) (fun x dx hh oh kvh oc k1 k2 h' tk' F' N' l1 d1 e1 e2 => ?_)
    exact ret x _ h' tk' F' N' l1 ⟨dx, hh, oc, k1, k2, oh, kvh, lf, nf, u1, u2, u3, u4, (.head _), (.tail _ (.head _)), (.tail _ (.tail _ (.head _))), d1, List.mem_append_right _ hlf, e1, .made e2 (List.mem_append_right _ hl)⟩
theorem c_headN (B : Below A₀ base outer h₀) (F : Fr h₀ L s.heap m) (X : (Mine.hd0.heap_1 w.params).In h₀) (N : News h₀ L s.heap news) (T : Top VW LS mean mg mb h₀) (hk : cs.kind = .function) (hd : dp + 16 < recursionLimit) (hu : un + 160 < cLine) {out : List (Addr × Obj)} (hs : ∀ q ∈ out, q ∈ news) {x lt : Addr} {nt : Nat} {v1 v2 v3 v4 : Tok} {fa fb fc fd ma mb mc md me mf ta tb tc td : Int} (hF : FormIs w out x fa fb fc fd ma mb mc md me mf) (hlt : (lt, listOf #[.int ta v1, .int tb v2, .int tc v3, .int td v4] nt) ∈ out)
   (ret : ∀ d M h' tk', Fr h₀ L h' m → News h₀ L h' (M ++ news) → Fresh news M → HeadIs w (M ++ out) d fa fb fc fd ma mb mc md me mf ta tb tc td → Q (.ref d) { s with heap := h', toks := tk' }) : wpAny (model PySem.Challenge.rw_qz0079_01.row.prog w) (ktrTop dp un gd cn cs L a₀ ccd cl outer) (call (.ref 543) [.ref x, .ref lt]) Q E s := by
  refine c_head B F X N T hk hd hu (fun d od kvd e oe kve h' tk' F' N' l1 d1 d2 e1 e2 => ?_)
  subst e1 e2
  exact ret d _ h' tk' F' N' l1 ⟨od, _, e, oe, _, x, lt, nt, v1, v2, v3, v4, (.head _), d1, (.tail _ (.head _)), d2, rfl, rfl, rfl, List.mem_append_right _ hlt, hF.mono (fun _ h => List.mem_append_right _ h)⟩

theorem c_toldM (B : Below A₀ base outer h₀) (F : Fr h₀ L s.heap m) (X : (Mine.hd0.heap_1 w.params).In h₀) (N : News h₀ L s.heap news) (T : Top VW LS mean mg mb h₀) (hk : cs.kind = .function) (hd : dp + 25 < recursionLimit) (hu : un + 250 < cLine) {out : List (Addr × Obj)} (hs : ∀ q ∈ out, q ∈ news) {x : Addr} {qa qb qc qd qe qf : Rat} (hM : MatIs w out x qa qb qc qd qe qf) (ret : ∀ t ta ia9 ja9 tb ib9 jb9 tc ic9 jc9 td id9 jd9 te ie9 je9 tf if9 jf9 h' tk', Fr h₀ L h' m → News h₀ L h' ((t, ({ cls := .type "tuple", data := .seq #[.ref ta, .ref tb, .ref tc, .ref td, .ref te, .ref tf] } : Obj)) :: (ta, ({ cls := .type "tuple", data := .seq #[.int (dtop qa) ia9, .int (dplc qa) ja9] } : Obj)) :: (tb, ({ cls := .type "tuple", data := .seq #[.int (dtop qb) ib9, .int (dplc qb) jb9] } : Obj)) :: (tc, ({ cls := .type "tuple", data := .seq #[.int (dtop qc) ic9, .int (dplc qc) jc9] } : Obj)) :: (td, ({ cls := .type "tuple", data := .seq #[.int (dtop qd) id9, .int (dplc qd) jd9] } : Obj)) :: (te, ({ cls := .type "tuple", data := .seq #[.int (dtop qe) ie9, .int (dplc qe) je9] } : Obj)) :: (tf, ({ cls := .type "tuple", data := .seq #[.int (dtop qf) if9, .int (dplc qf) jf9] } : Obj)) :: news) → Q (.ref t) { s with heap := h', toks := tk' }) : wpAny (model PySem.Challenge.rw_qz0079_01.row.prog w) (ktrTop dp un gd cn cs L a₀ ccd cl outer) (call (.ref 276) [.ref x]) Q E s := by
  obtain ⟨dx, k1, k2, k3, k4, k5, k6, a, da, ka1, ka2, ka3, ka4, b, db, kb1, kb2, kb3, kb4, c, dc, kc1, kc2, kc3, kc4, d, dd, kd1, kd2, kd3, kd4, e, de, ke1, ke2, ke3, ke4, f, df, kf1, kf2, kf3, kf4, h0, h1, h2, h3, h4, h5, h6, h7, h8, h9, h10, h11, h12, h13, h14, h15, h16, h17, h18, h19⟩ := hM
  exact c_mtold B F X N T hk hd hu (hs _ h0) (hs _ h1) (hs _ h2) (hs _ h3) h4 (hs _ h5) (hs _ h6) h7 (hs _ h8) (hs _ h9) h10 (hs _ h11) (hs _ h12) h13 (hs _ h14) (hs _ h15) h16 (hs _ h17) (hs _ h18) h19 ret
theorem c_pointM (B : Below A₀ base outer h₀) (F : Fr h₀ L s.heap m) (X : (Mine.hd0.heap_1 w.params).In h₀) (N : News h₀ L s.heap news) (T : Top VW LS mean mg mb h₀) (hk : cs.kind = .function) (hd : dp + 40 < recursionLimit) (hu : un + 400 < cLine) {out : List (Addr × Obj)} (hs : ∀ q ∈ out, q ∈ news) {z : Addr} {qa qb qc qd qe qf : Rat} (hM : MatIs w out z qa qb qc qd qe qf) {x y : Int} {tx ty : Tok} (bx : Bnd x 3) (by_ : Bnd y 3)
    (ret : ∀ t t1 t2 i1 j1 i2 j2 h' tk', Fr h₀ L h' m → News h₀ L h' ((t, ({ cls := .type "tuple", data := .seq #[.ref t1, .ref t2] } : Obj)) :: (t1, ({ cls := .type "tuple", data := .seq #[.int (dtop (qa * (x : Rat) + qc * (y : Rat) + qe)) i1, .int (dplc (qa * (x : Rat) + qc * (y : Rat) + qe)) j1] } : Obj)) :: (t2, ({ cls := .type "tuple", data := .seq #[.int (dtop (qb * (x : Rat) + qd * (y : Rat) + qf)) i2, .int (dplc (qb * (x : Rat) + qd * (y : Rat) + qf)) j2] } : Obj)) :: news) → Q (.ref t) { s with heap := h', toks := tk' }) : wpAny (model PySem.Challenge.rw_qz0079_01.row.prog w) (ktrTop dp un gd cn cs L a₀ ccd cl outer) (call (.ref 550) [.ref z, .int x tx, .int y ty]) Q E s := by
  obtain ⟨dx, k1, k2, k3, k4, k5, k6, a, da, ka1, ka2, ka3, ka4, b, db, kb1, kb2, kb3, kb4, c, dc, kc1, kc2, kc3, kc4, d, dd, kd1, kd2, kd3, kd4, e, de, ke1, ke2, ke3, ke4, f, df, kf1, kf2, kf3, kf4, h0, h1, h2, h3, h4, h5, h6, h7, h8, h9, h10, h11, h12, h13, h14, h15, h16, h17, h18, h19⟩ := hM
  exact c_point B F X N T hk hd hu (hs _ h0) (hs _ h1) (hs _ h2) (hs _ h3) h4 (hs _ h5) (hs _ h6) h7 (hs _ h8) (hs _ h9) h10 (hs _ h11) (hs _ h12) h13 (hs _ h14) (hs _ h15) h16 (hs _ h17) (hs _ h18) h19 (by omega) bx by_ ret
end
end PartC25
section PartLw
noncomputable def lawBody : List Stmt := match lawStmt with
  | .FunctionDef _ _ b _ _ _ _ _ _ _ => b
  | _ => []
noncomputable def lawScope : Scope := match lawStmt with
  | .FunctionDef _ _ _ _ _ _ sc _ _ _ => sc
  | _ => default
noncomputable def bodyOf (k : Nat) : List Stmt := match (lawBody.drop k).headD (Stmt.Pass default) with
  | .For _ _ b _ _ => b
  | _ => []
noncomputable def wayBody : List Stmt := bodyOf 14
noncomputable def ifBody : List Stmt := match (lawBody.drop 15).headD (Stmt.Pass default) with
  | .If _ b _ _ => b
  | _ => []
noncomputable def cornerBody : List Stmt := match (ifBody.drop 2).headD (Stmt.Pass default) with
  | .For _ _ b _ _ => b
  | _ => []
end PartLw
section PartC26
/-- what of the ledger the law's next part leans on, but for the pen and the cells -/
inductive LOut (p ct cp c : Addr) : List (Addr × Obj) → List (Addr × Obj) → Prop
  | skip {a : Addr} {o : Obj} {l out : List (Addr × Obj)} (h : a = p ∨ a = ct ∨ a = cp ∨ a = c) (r : LOut p ct cp c l out) : LOut p ct cp c ((a, o) :: l) out
  | take {a : Addr} {o : Obj} {l out : List (Addr × Obj)} (r : LOut p ct cp c l out) : LOut p ct cp c ((a, o) :: l) ((a, o) :: out)
  | app {M l out : List (Addr × Obj)} (r : LOut p ct cp c l out) : LOut p ct cp c (M ++ l) (M ++ out)
  | rest {l : List (Addr × Obj)} : LOut p ct cp c l l
theorem LOut.sub {p ct cp c : Addr} {l out : List (Addr × Obj)} (h : LOut p ct cp c l out) : ∀ q ∈ out, q ∈ l := by
  induction h with
  | skip _ _ ih => exact fun q hq => List.mem_cons_of_mem _ (ih q hq)
  | take _ ih =>
    intro q hq
    rcases List.mem_cons.mp hq with rfl | hq
    · exact List.mem_cons_self
    · exact List.mem_cons_of_mem _ (ih q hq)
  | app _ ih =>
    intro q hq
    rcases List.mem_append.mp hq with hq | hq
    · exact List.mem_append_left _ hq
    · exact List.mem_append_right _ (ih q hq)
  | rest => exact fun q hq => hq
/-- the matrix that the law's first placing gave -/
structure IsAM0 (fa fb fc fd ma mb mc md me mf ta tb tc td : Int) (qa qb qc qd qe qf : Rat) : Prop where
  am : IsAM fa fb fc fd ma mb mc md me mf ta tb tc td qa qb qc qd qe qf
section
variable {fa fb fc fd ma mb mc md me mf ta tb tc td : Int} {qa qb qc qd qe qf ra rb rc rd re rf : Rat}
theorem am_same0 (h : IsAM0 fa fb fc fd ma mb mc md me mf ta tb tc td qa qb qc qd qe qf) (h' : IsAM fa fb fc fd ma mb mc md me mf ta tb tc td ra rb rc rd re rf) : qa = ra ∧ qb = rb ∧ qc = rc ∧ qd = rd ∧ qe = re ∧ qf = rf := by
  obtain ⟨a, b, c, d, e, f⟩ := am_same h.am h'
  exact ⟨a.symm, b.symm, c.symm, d.symm, e.symm, f.symm⟩
theorem am_shift0 {x y : Int} (h : IsAM0 fa fb fc fd ma mb mc md me mf ta tb tc td qa qb qc qd qe qf) (h' : IsAM fa fb fc fd ma mb mc md me mf (ta + x) (tb + y) (tc + x) (td + y) ra rb rc rd re rf) : qa = ra ∧ qb = rb ∧ qc = rc ∧ qd = rd ∧ re = qe + x ∧ rf = qf + y := by
  obtain ⟨a, b, c, d, e, f⟩ := am_shift h.am h'
  exact ⟨a.symm, b.symm, c.symm, d.symm, e, f⟩
end
theorem led4 {h₀ h : Heap} {L p ct cp c : Addr} {P oct ocp oc : Obj} {led out : List (Addr × Obj)} (N : News h₀ L h led) (h1 : (p, P) ∈ led) (h2 : (ct, oct) ∈ led) (h3 : (cp, ocp) ∈ led) (h4 : (c, oc) ∈ led) (ho : LOut p ct cp c led out) :
    News h₀ L h ((p, P) :: (ct, oct) :: (cp, ocp) :: (c, oc) :: out) := by
  intro q hq
  simp only [List.mem_cons] at hq
  rcases hq with rfl | rfl | rfl | rfl | hq
  · exact N _ h1
  · exact N _ h2
  · exact N _ h3
  · exact N _ h4
  · exact N _ (ho.sub _ hq)

/-- the ledger that a loop begins with -/
def LedTag (_l : List (Addr × Obj)) : Prop := True
section
variable {prog : Program} {w : World} {A : Around} {E : Value → Shared → Prop} {s : Shared} {env : Env} {h₀ : Heap} {target : PySem.Expr} {body : List Stmt} {Q : Flow → Shared → Prop}
theorem c_iterT {ax : Addr} {vs : List Value} {n : Nat} {m₀ : PySem.Str → Option Value} {news : List (Addr × Obj)}
    (hh : A.handled = none) (F : Fr h₀ env.locals s.heap m₀) (N : News h₀ env.locals s.heap news) (hm : (ax, ({ cls := .type "tuple", data := .seq vs.toArray n } : Obj)) ∈ news)
    (rest₀ : ∀ I : Addr, (∀ p ∈ news, p.1 < I) → LedTag news → ItemsRest prog w A E h₀ env target body Q s [(I, "tuple_iterator")] [(ax, ({ cls := .type "tuple", data := .seq vs.toArray n } : Obj))] (vs.map .val) m₀ news) :
    wpAny (model prog w) A (pyIter (.ref ax)) (fun it s₂ => TurnsAt prog w A h₀ env target body Q E it s₂) E s :=
  iter_tupTurns hh F N hm rfl rfl (fun I h => rest₀ I h trivial)
theorem unrw_end {L I ax : Addr} {io lo : Obj} {rest : (PySem.Str → Option Value) → List (Addr × Obj) → Prop} {s₁ : Shared} {h' : Heap} {tk : Nat} {m' : PySem.Str → Option Value} {l all : List (Addr × Obj)}
    (tag : LedTag l) (lI : ∀ p ∈ l, p.1 < I) (hk : (ax, lo) ∈ l) (F : Fr h₀ L h' m') (N : News h₀ L h' all) (hI : (I, io) ∈ all) (hsub : ∀ p ∈ l, p ∈ all) (r : rest m' l) :
    UnrEndW h₀ L s₁ [(I, io)] (fun m' n' => SubL [(ax, lo)] n' ∧ rest m' n') { s₁ with heap := h', toks := tk } := by
  refine ⟨h', tk, m', l, rfl, F, ?_, ?_, ⟨hk, trivial⟩, r⟩
  · intro p hp
    rcases List.mem_append.mp hp with hp | hp
    · rw [List.mem_singleton.mp hp]; exact N _ hI
    · exact N _ (hsub p hp)
  · intro p hp q hq
    rw [List.mem_singleton.mp hq]
    exact Nat.ne_of_lt (lI p hp)
end

theorem am_great0 {fa fb fc fd ma mb mc md me mf ta tb tc td : Int} {qa qb qc qd qe qf ra rb rc rd re rf : Rat} {t : Int} (ht : 0 < t) (G : Great fa fb fc fd ma mb mc md me mf t) (h : IsAM0 fa fb fc fd ma mb mc md me mf ta tb tc td qa qb qc qd qe qf)
    (h' : IsAM (fa * t) (fb * t) (fc * t) (fd * t) ma mb mc md me mf ta tb tc td ra rb rc rd re rf) (u v : Int) :
    ra * ((u * t : Int) : Rat) + rc * ((v * t : Int) : Rat) + re = qa * u + qc * v + qe ∧ rb * ((u * t : Int) : Rat) + rd * ((v * t : Int) : Rat) + rf = qb * u + qd * v + qf := by
  obtain ⟨_, _, _, nx, ny, rfl, rfl⟩ := G
  exact am_great ht nx ny h.am h' u v
theorem bnd_times {u t : Int} (hu : -13 ≤ u ∧ u ≤ 13) (ht : t = 2 ∨ t = 4 ∨ t = 5 ∨ t = 10) : Bnd (u * t) 3 ∧ Bnd u 3 ∧ Bnd t 3 := by
  refine ⟨bnd3 ?_, bnd3 ?_, bnd3 ?_⟩ <;> rcases ht with rfl | rfl | rfl | rfl <;> omega

theorem menu4 {a b c d : Int} {ta tb tc td : Tok} {v : Value} (h : v ∈ [.int a ta, .int b tb, .int c tc, .int d td]) : ∃ k t, v = .int k t ∧ (k = a ∨ k = b ∨ k = c ∨ k = d) := by
  simp only [List.mem_cons, List.not_mem_nil, or_false] at h
  rcases h with rfl | rfl | rfl | rfl
  · exact ⟨_, _, rfl, .inl rfl⟩
  · exact ⟨_, _, rfl, .inr (.inl rfl)⟩
  · exact ⟨_, _, rfl, .inr (.inr (.inl rfl))⟩
  · exact ⟨_, _, rfl, .inr (.inr (.inr rfl))⟩
theorem menu6 {a b c d e f : Int} {ta tb tc td te tf : Tok} {v : Value} (h : v ∈ [.int a ta, .int b tb, .int c tc, .int d td, .int e te, .int f tf]) : ∃ k t, v = .int k t ∧ (k = a ∨ k = b ∨ k = c ∨ k = d ∨ k = e ∨ k = f) := by
  simp only [List.mem_cons, List.not_mem_nil, or_false] at h
  rcases h with rfl | rfl | rfl | rfl | rfl | rfl
  · exact ⟨_, _, rfl, .inl rfl⟩
  · exact ⟨_, _, rfl, .inr (.inl rfl)⟩
  · exact ⟨_, _, rfl, .inr (.inr (.inl rfl))⟩
  · exact ⟨_, _, rfl, .inr (.inr (.inr (.inl rfl)))⟩
  · exact ⟨_, _, rfl, .inr (.inr (.inr (.inr (.inl rfl))))⟩
  · exact ⟨_, _, rfl, .inr (.inr (.inr (.inr (.inr rfl))))⟩
theorem six_bd {w : Int} (h : w = 1 ∨ w = 2 ∨ w = 4 ∨ w = 5 ∨ w = 10 ∨ w = 0) : 0 ≤ w ∧ w ≤ 10 := by
  rcases h with rfl | rfl | rfl | rfl | rfl | rfl <;> decide
theorem in13 {a : Int} (h : -3 ≤ a ∧ a ≤ 3) : -13 ≤ a ∧ a ≤ 13 := by omega
theorem sum13 {a w c : Int} (h : -3 ≤ a ∧ a ≤ 3) (hw : w = 1 ∨ w = 2 ∨ w = 4 ∨ w = 5 ∨ w = 10 ∨ w = 0) (e : c = a + w) : -13 ≤ c ∧ c ≤ 13 := by
  have := six_bd hw
  clear hw
  omega
theorem draws_small {fa fb fc fd wd hg ma mb mc md me mf ta tb tc td : Int} (D : Draws fa fb fc fd wd hg ma mb mc md me mf ta tb tc td) : (-13 ≤ fa ∧ fa ≤ 13) ∧ (-13 ≤ fb ∧ fb ≤ 13) ∧ (-13 ≤ fc ∧ fc ≤ 13) ∧ (-13 ≤ fd ∧ fd ≤ 13) := by
  obtain ⟨a, b, c, d, e, f, g, h, i, j, k⟩ := D
  exact ⟨in13 a, in13 b, sum13 a c e, sum13 b d f⟩
theorem zero2 {a b : Int} (h : [a, b] = [0, 0]) : a = 0 ∧ b = 0 := by simpa using h
end PartC26
section PartC27
/-- the scope of the law's two blocks -/
noncomputable abbrev oneScope : Scope := { kind := .function, names := [(PySem.Str.ofString ".0", .local), (PySem.Str.ofString "one", .local)], isGenerator := false, isCoroutine := false, more := [] }
theorem lines_C27_1 : True := by
  k_with_none
  k_with "c mem" =>
    first | ((with_reducible refine' mem_here ?z684zh9); (case z684zh9 => exact rfl)) | ((with_reducible refine' mem_nth 1 ?z684zh9); (case z684zh9 => exact rfl)) | ((with_reducible refine' mem_nth 2 ?z684zh9); (case z684zh9 => exact rfl)) | ((with_reducible refine' mem_nth 3 ?z684zh9); (case z684zh9 => exact rfl)) | ((with_reducible refine' mem_nth 4 ?z684zh9); (case z684zh9 => exact rfl)) | ((with_reducible refine' mem_nth 5 ?z684zh9); (case z684zh9 => exact rfl)) | ((with_reducible refine' mem_nth 6 ?z684zh9); (case z684zh9 => exact rfl)) | ((with_reducible refine' mem_nth 7 ?z684zh9); (case z684zh9 => exact rfl)) | ((with_reducible refine' mem_nth 8 ?z684zh9); (case z684zh9 => exact rfl)) | ((with_reducible refine' mem_nth 9 ?z684zh9); (case z684zh9 => exact rfl)) | ((with_reducible refine' mem_skip ?_); walk_at "c mem") | (with_reducible exact List.mem_append_left _ (by with_reducible assumption)) | ktr_member | ((with_reducible refine' List.mem_cons_of_mem _ ?_); walk_at "c mem") | ((with_reducible refine' List.mem_append_right _ ?_); walk_at "c mem")
  k_with "c room" =>
    with_reducible first | assumption | exact room1 (by assumption) rfl | exact room2 (by assumption) rfl | exact room3 (by assumption) rfl | exact room4 (by assumption) rfl
  k_with "c le" =>
    with_reducible first | assumption | exact Nat.le_trans (by assumption) (by decide)
  k_with "c lt1" =>
    with_reducible first | assumption | exact cj0 | exact cj1 | exact cj2 | exact cj3 | exact cj4 | exact cj5 | exact cj6 | exact cj7 | exact cj8 | exact cj9 | exact cj10 | exact cj11 | exact cj12 | exact cj13 | exact cj14 | exact cj15 | exact cj16 | exact cj17 | exact cj18 | exact cj19 | exact cj20 | exact cj21 | exact cj22 | exact cj23 | exact And.right (by with_reducible assumption) | exact And.right (And.right (by with_reducible assumption)) | exact And.right (And.right (And.right (by with_reducible assumption))) | exact And.right (And.right (And.right (And.right (by with_reducible assumption))))
  k_with "c lt2" =>
    ((with_reducible refine' Nat.lt_trans ?z688za9 ?z688zb9); (case z688zb9 => with_reducible assumption); (case z688za9 => walk_at "c lt1"))
  k_with "c lt" =>
    first | walk_at "c lt1" | walk_at "c lt2"
  k_with "c up3" =>
    with_reducible first | exact abv3 (by assumption) | exact abv3_1 (by assumption) | exact abv3_2 (by assumption) | exact abv3_3 (by assumption) | exact abv3_4 (by assumption) | (refine' Abv3.tr ?z690za9 ?z690zb9; (case z690za9 => assumption); (case z690zb9 => walk_at "c up3"))
  k_with "c ne" =>
    first | with_reducible (first | assumption | exact And.left (by assumption) | exact Ne.symm (And.left (by assumption)) | exact And.left (And.right (by assumption)) | exact Ne.symm (And.left (And.right (by assumption))) | exact And.right (And.right (by assumption)) | exact Ne.symm (And.right (And.right (by assumption))) | exact neq_lt (by assumption) | exact neq_gt (by assumption) | exact nl0 | exact nr0 | exact nl1 | exact nr1 | exact nl2 | exact nr2 | exact nl3 | exact nr3 | exact nl4 | exact nr4 | exact nl5 | exact nr5 | exact nl6 | exact nr6 | exact nl7 | exact nr7 | exact nl8 | exact nr8 | exact nl9 | exact nr9 | exact nl10 | exact nr10 | exact nl11 | exact nr11 | exact nl12 | exact nr12 | exact nl13 | exact nr13 | exact nl14 | exact nr14 | exact nl15 | exact nr15 | exact nl16 | exact nr16 | exact nl17 | exact nr17 | exact nl18 | exact nr18 | exact nl19 | exact nr19 | exact nl20 | exact nr20 | exact nl21 | exact nr21 | exact nl22 | exact nr22 | exact nl23 | exact nr23) | ((with_reducible refine' neq_lt ?z691zz9); (case z691zz9 => walk_at "c lt2")) | ((with_reducible refine' neq_gt ?z691zz9); (case z691zz9 => walk_at "c lt2")) | ((try dsimp only); omega)
  k_with "c dp" =>
    ((try simp only [depth_under_make, depth_under_kw, depth_in1, depth_deeper, depth_caller]); (try dsimp only [ktrTop]); first | walk_at "c room" | omega | decide)
  k_with "c un" =>
    ((try simp only [units_make, units_in1, units_deeper, Around.mark_units, units_caller]); (try dsimp only [ktrTop]); first | walk_at "c room" | omega | decide)
  k_with "c sub" =>
    first | (refine List.forall_mem_cons.mpr ⟨?z694za, ?z694zb⟩; (case z694za => walk_at "c mem"); (case z694zb => walk_at "c sub")) | exact List.forall_mem_nil _ | (intro p9 h9; (repeat (first | exact h9 | refine List.mem_cons_of_mem _ ?_ | refine List.mem_append_left _ ?_)))
  k_with "c bnd" =>
    with_reducible (first | assumption | exact Bnd.pow _ | (refine' Bnd.fdiv ?z695za; (case z695za => walk_at "c bnd")) | (exact Bnd.mul (by walk_at "c bnd") (by walk_at "c bnd")) | (exact Bnd.add1 (by walk_at "c bnd") (by walk_at "c bnd")) | (exact Bnd.sub1 (by walk_at "c bnd") (by walk_at "c bnd")) | (exact Bnd.add (by walk_at "c bnd") (by walk_at "c bnd")) | (exact Bnd.sub (by walk_at "c bnd") (by walk_at "c bnd")))
  k_with "c ar" =>
    first | assumption | decide | omega | (split <;> omega)
  k_with "c mul" =>
    exact mulOk_bnd (by walk_at "c bnd") (by walk_at "c bnd") (by walk_at "c ar") (by walk_at "c ar")
  k_with "binaryOp Pow int int" =>
    ((with_reducible refine pow_int_small ?z698zkb1 ?z698zkb2 ?z698zkb3 ?_); (case z698zkb1 => walk_at "c ar"); (case z698zkb2 => walk_at "c ar"); (case z698zkb3 => decide))
  k_with "call ref" =>
    (k_here; (with_reducible show wpAny _ _ (call (Prod.fst _) (_ ++ _)) _ _ _); dsimp only [List.nil_append, List.cons_append])
  k_with "subscriptTail" =>
    (k_here; (with_reducible show wpAny _ _ (subscriptTail _ _ (Value.ref _) (Value.int _ _)) _ _ _); k_dflt (first
    | (refine' item_tupleT ?z700zt ?z700za ?z700zb ?z700zc ?z700zd ?_; (case z700zt => exact News.isTup (by k_asm) (by k_mem)); (case z700za => decide); (case z700zb => decide); (case z700zc => exact rfl); (case z700zd => exact rfl); k_whole)
    | (refine' c_item ?z700zN ?z700zm ?z700za ?z700zb ?z700zc ?_ ?z700zz; (case z700zN => k_asm); (case z700zm => k_mem); (case z700za => decide); (case z700zb => decide); (case z700zc => exact rfl); (case z700zz => with_unfolding_all rfl); k_whole)))
  k_with "subscriptTail Name Constant ref int" =>
    (k_here; (with_reducible show wpAny _ _ (subscriptTail _ _ (Value.ref _) (Value.int _ _)) _ _ _); k_dflt (first
    | (refine' item_tupleT ?z701zt ?z701za ?z701zb ?z701zc ?z701zd ?_; (case z701zt => exact News.isTup (by k_asm) (by k_mem)); (case z701za => decide); (case z701zb => decide); (case z701zc => exact rfl); (case z701zd => exact rfl); k_whole)
    | (refine' c_item ?z701zN ?z701zm ?z701za ?z701zb ?z701zc ?_ ?z701zz; (case z701zN => k_asm); (case z701zm => k_mem); (case z701za => decide); (case z701zb => decide); (case z701zc => exact rfl); (case z701zz => with_unfolding_all rfl); k_whole)))
  trivial
section
variable {w : World} {mean : ExcName → Option Value} {mg mb : PySem.Str → Option Value} {dp un : Nat} {gd : Option (List Code)} {cn : PySem.Str} {cs : Scope} {a₀ : Addr} {ccd : Value} {cl : List (PySem.Str × Addr)} {outer : List Env}
  {A₀ : Around} {base h₀ : Heap} {L : Addr} {m : PySem.Str → Option Value} {s : Shared} {news : List (Addr × Obj)} {Q E : Value → Shared → Prop}
theorem lines_C27_2 : True := by
  k_with "call ref" =>
    (k_here; (with_reducible show wpAny _ _ (call (Value.ref 138) [Value.ref _]) _ _ _); k_dflt (refine' c_told ?z702zcB ?z702zcF ?z702zcX ?z702zcN ?z702zcT ?z702zcK ?z702zcD ?z702zcU ?z702zp0 ?z702zp1 ?z702zp2 ?_; (case z702zcB => k_asm); (case z702zcF => k_asm); (case z702zcX => k_asm); (case z702zcN => k_asm); (case z702zcT => k_asm); (case z702zcK => first | exact rfl | assumption); (case z702zcD => walk_at "c dp"); (case z702zcU => walk_at "c un"); (case z702zp0 => k_mem); (case z702zp1 => k_mem); (case z702zp2 => with_reducible assumption); intro t' i1' i2' h' tk' F' N' l1; (try simp only [AllLt, and_true] at l1); (try k_sweep); (try dsimp only); (try k_fold)))
  k_with "c kept" =>
    first | exact Kept.done (by with_reducible assumption) | (refine' Kept.skipI ?z703zk9; (case z703zk9 => walk_at "c kept")) | (refine' Kept.skipC ?z703zk9; (case z703zk9 => walk_at "c kept")) | (refine' Kept.skipD ?z703zk9; (case z703zk9 => walk_at "c kept")) | ((with_reducible refine' Kept.takeF ?z703zu9 ?z703zk9); (case z703zu9 => with_reducible assumption); (case z703zk9 => walk_at "c kept")) | ((with_reducible refine' Kept.take3 ?z703zu9 ?z703zk9); (case z703zu9 => walk_at "c up3"); (case z703zk9 => walk_at "c kept")) | (refine' Kept.take ?z703za ?z703zb ?z703zc ?z703zk9; (case z703za => first | walk_at "c ne" | omega); (case z703zb => first | walk_at "c ne" | omega); (case z703zc => first | walk_at "c ne" | omega); (case z703zk9 => walk_at "c kept"))
  k_with "CompEnd" =>
    (k_dflt (refine' kept_end ?z704zF ?z704zN ?z704zk ?z704zi ?z704zc ?z704zd ?z704zs ?_; (case z704zF => k_asm); (case z704zN => k_asm); (case z704zk => with_reducible walk_at "c kept"); (case z704zi => k_mem); (case z704zc => k_mem); (case z704zd => k_mem); (case z704zs => first | exact True.intro | (refine' src_list ?z704zm1; (case z704zm1 => k_mem)) | exact Or.inl (by assumption))))
  k_with "CompRest" =>
    (with_unfolding_all first
    | (refine LCg.CompRest.succ ?_; intro v' I' oI' C' oC' D' m' h' tk' E' hv' hC' hx' F' N' off' ne'; (first | lcg_open hv' | (obtain ⟨t9', hv9'⟩ := hv'; subst hv9')))
    | refine LCg.CompRest.zero ?_)
  k_with "FinE" =>
    ((unfold LCg.FinE); intro D' h' tk' F' N' o1'; clear o1'; (try simp only [List.nil_append, List.cons_append] at N'); (try dsimp only))
  trivial

theorem c_turnT1 (B : Below A₀ base outer h₀) (X : (Mine.hd0.heap_1 w.params).In h₀) (T : Top VW LS mean mg mb h₀) (hd : dp + 100 < recursionLimit) (hu : un + 1000 < cLine) {ct cp : Addr} {S : List (Addr × Obj) → Prop} {R : Value → List (Addr × Obj) → Prop} {I C D : Addr} {oI oC : Obj} {ys : List Value} {m₂ : PySem.Str → Option Value} {h : Heap} {tk : Nat}
   (hC : LCg.NsObj oC m₂) {x dx : Addr} {q : Rat} {n : Nat} {k1 k2 k3 k4 : Tok} (hx : m₂ (PySem.Str.ofString "one") = some (.ref x)) (F : Fr h₀ L h m) (N : News h₀ L h ((I, oI) :: (C, oC) :: (D, LCg.lst ys) :: news)) (off : LCg.Off3 I C D news) (ne : (@Ne Nat I C) ∧ (@Ne Nat I D) ∧ (@Ne Nat C D))
   (hxm : (x, instObj 155 dx) ∈ news) (hdx : (dx, decObj w q k1 k2 k3 k4) ∈ news) (hq : DecQ q n) (hS : ∀ t o, S ((t, o) :: news))
   (rest : ∀ t i j, R (.ref t) ((t, ({ cls := .type "tuple", data := .seq #[.int (dtop q) i, .int (dplc q) j] } : Obj)) :: news)) :
   wpAny (model PySem.Challenge.rw_qz0079_01.row.prog w) (ktrTop dp un gd cn lawScope L a₀ ccd [(PySem.Str.ofString "times", ct), (PySem.Str.ofString "pen", cp)] outer) (eval (PySem.Expr.Call (PySem.Expr.Attribute (PySem.Expr.Name "one" ⟨347, 8, 347, 11⟩) "told" ⟨347, 8, 347, 16⟩) [] [] ⟨347, 8, 347, 18⟩) (compEnvC oneScope [] C (envX cn lawScope L a₀ ccd [(PySem.Str.ofString "times", ct), (PySem.Str.ofString "pen", cp)]))) (LCg.CompEnd h₀ L m { s with heap := h, toks := tk } I oI C oC D (LCg.lst ys) S R) E { s with heap := h, toks := tk } := by
  conv in (occs := *) lawScope => whnf
  revert X; k_fill; intro X
  w_on
  (try k_fold)
  k_steps
  rename Fr h₀ L _ m => kF
  rename News h₀ L _ _ => kN
  refine' kept_end kF kN ?k9 ?a9 ?b9 ?c9 (hS _ _) (rest _ _ _)
  case k9 => with_reducible walk_at "c kept"
  case a9 => k_mem
  case b9 => k_mem
  case c9 => k_mem

theorem c_turnT2 (B : Below A₀ base outer h₀) (X : (Mine.hd0.heap_1 w.params).In h₀) (T : Top VW LS mean mg mb h₀) (hd : dp + 100 < recursionLimit) (hu : un + 1000 < cLine) {ct cp : Addr} {S : List (Addr × Obj) → Prop} {R : Value → List (Addr × Obj) → Prop} {I C D : Addr} {oI oC : Obj} {ys : List Value} {m₂ : PySem.Str → Option Value} {h : Heap} {tk : Nat}
   (hC : LCg.NsObj oC m₂) {x dx : Addr} {q : Rat} {n : Nat} {k1 k2 k3 k4 : Tok} (hx : m₂ (PySem.Str.ofString "one") = some (.ref x)) (F : Fr h₀ L h m) (N : News h₀ L h ((I, oI) :: (C, oC) :: (D, LCg.lst ys) :: news)) (off : LCg.Off3 I C D news) (ne : (@Ne Nat I C) ∧ (@Ne Nat I D) ∧ (@Ne Nat C D))
   (hxm : (x, instObj 155 dx) ∈ news) (hdx : (dx, decObj w q k1 k2 k3 k4) ∈ news) (hq : DecQ q n) (hS : ∀ t o, S ((t, o) :: news))
   (rest : ∀ t i j, R (.ref t) ((t, ({ cls := .type "tuple", data := .seq #[.int (dtop q) i, .int (dplc q) j] } : Obj)) :: news)) :
   wpAny (model PySem.Challenge.rw_qz0079_01.row.prog w) (ktrTop dp un gd cn lawScope L a₀ ccd [(PySem.Str.ofString "times", ct), (PySem.Str.ofString "pen", cp)] outer) (eval (PySem.Expr.Call (PySem.Expr.Attribute (PySem.Expr.Name "one" ⟨347, 51, 347, 54⟩) "told" ⟨347, 51, 347, 59⟩) [] [] ⟨347, 51, 347, 61⟩) (compEnvC oneScope [] C (envX cn lawScope L a₀ ccd [(PySem.Str.ofString "times", ct), (PySem.Str.ofString "pen", cp)]))) (LCg.CompEnd h₀ L m { s with heap := h, toks := tk } I oI C oC D (LCg.lst ys) S R) E { s with heap := h, toks := tk } := by
  conv in (occs := *) lawScope => whnf
  revert X; k_fill; intro X
  w_on
  (try k_fold)
  k_steps
  rename Fr h₀ L _ m => kF
  rename News h₀ L _ _ => kN
  refine' kept_end kF kN ?k9 ?a9 ?b9 ?c9 (hS _ _) (rest _ _ _)
  case k9 => with_reducible walk_at "c kept"
  case a9 => k_mem
  case b9 => k_mem
  case c9 => k_mem

theorem c_restT1 (B : Below A₀ base outer h₀) (X : (Mine.hd0.heap_1 w.params).In h₀) (T : Top VW LS mean mg mb h₀) (hd : dp + 100 < recursionLimit) (hu : un + 1000 < cLine) {ct cp : Addr} {Fin : List Value → List (Addr × Obj) → Prop} {ax : Addr} {nx : Nat} {n : Nat} {xa xb xc xd xe xf dxa dxb dxc dxd dxe dxf : Addr} {qa qb qc qd qe qf : Rat} {kxa1 kxa2 kxa3 kxa4 kxb1 kxb2 kxb3 kxb4 kxc1 kxc2 kxc3 kxc4 kxd1 kxd2 kxd3 kxd4 kxe1 kxe2 kxe3 kxe4 kxf1 kxf2 kxf3 kxf4 : Tok} (hax : (ax, listOf #[.ref xa, .ref xb, .ref xc, .ref xd, .ref xe, .ref xf] nx) ∈ news) (ya : (xa, instObj 155 dxa) ∈ news) (yda : (dxa, decObj w qa kxa1 kxa2 kxa3 kxa4) ∈ news) (hqa : DecQ qa n) (yb : (xb, instObj 155 dxb) ∈ news) (ydb : (dxb, decObj w qb kxb1 kxb2 kxb3 kxb4) ∈ news) (hqb : DecQ qb n) (yc : (xc, instObj 155 dxc) ∈ news) (ydc : (dxc, decObj w qc kxc1 kxc2 kxc3 kxc4) ∈ news) (hqc : DecQ qc n) (yd : (xd, instObj 155 dxd) ∈ news) (ydd : (dxd, decObj w qd kxd1 kxd2 kxd3 kxd4) ∈ news) (hqd : DecQ qd n) (ye : (xe, instObj 155 dxe) ∈ news) (yde : (dxe, decObj w qe kxe1 kxe2 kxe3 kxe4) ∈ news) (hqe : DecQ qe n) (yf : (xf, instObj 155 dxf) ∈ news) (ydf : (dxf, decObj w qf kxf1 kxf2 kxf3 kxf4) ∈ news) (hqf : DecQ qf n)
   (fin : ∀ ta ia9 ja9 tb ib9 jb9 tc ic9 jc9 td id9 jd9 te ie9 je9 tf if9 jf9, Fin [.ref ta, .ref tb, .ref tc, .ref td, .ref te, .ref tf] ((tf, ({ cls := .type "tuple", data := .seq #[.int (dtop qf) if9, .int (dplc qf) jf9] } : Obj)) :: (te, ({ cls := .type "tuple", data := .seq #[.int (dtop qe) ie9, .int (dplc qe) je9] } : Obj)) :: (td, ({ cls := .type "tuple", data := .seq #[.int (dtop qd) id9, .int (dplc qd) jd9] } : Obj)) :: (tc, ({ cls := .type "tuple", data := .seq #[.int (dtop qc) ic9, .int (dplc qc) jc9] } : Obj)) :: (tb, ({ cls := .type "tuple", data := .seq #[.int (dtop qb) ib9, .int (dplc qb) jb9] } : Obj)) :: (ta, ({ cls := .type "tuple", data := .seq #[.int (dtop qa) ia9, .int (dplc qa) ja9] } : Obj)) :: news)) :
   LCg.CompRest PySem.Challenge.rw_qz0079_01.row.prog w (ktrTop dp un gd cn lawScope L a₀ ccd [(PySem.Str.ofString "times", ct), (PySem.Str.ofString "pen", cp)] outer) h₀ L m (envX cn lawScope L a₀ ccd [(PySem.Str.ofString "times", ct), (PySem.Str.ofString "pen", cp)]) (PySem.Expr.Call (PySem.Expr.Attribute (PySem.Expr.Name "one" ⟨347, 8, 347, 11⟩) "told" ⟨347, 8, 347, 16⟩) [] [] ⟨347, 8, 347, 18⟩) (PySem.Str.ofString "one") oneScope [] s (LCg.SrcAt h₀ ax #[.ref xa, .ref xb, .ref xc, .ref xd, .ref xe, .ref xf]) (fun i v => (#[.ref xa, .ref xb, .ref xc, .ref xd, .ref xe, .ref xf] : Array Value)[i]? = some v) Fin 6 0 [] news := by
  refine LCg.CompRest.succ ?_
  intro v I oI C oC D m2 h tk E' hv hC hx F N off ne
  cases hv
  refine c_turnT1 B X T hd hu hC hx F N off ne ya yda hqa (fun t o => src_list (List.mem_cons_of_mem _ hax)) (fun ta ia9 ja9 => ?_)
  refine LCg.CompRest.succ ?_
  intro v I oI C oC D m2 h tk E' hv hC hx F N off ne
  cases hv
  refine c_turnT1 B X T hd hu hC hx F N off ne (List.mem_cons_of_mem _ yb) (List.mem_cons_of_mem _ ydb) hqb (fun t o => src_list (List.mem_cons_of_mem _ (List.mem_cons_of_mem _ hax))) (fun tb ib9 jb9 => ?_)
  refine LCg.CompRest.succ ?_
  intro v I oI C oC D m2 h tk E' hv hC hx F N off ne
  cases hv
  refine c_turnT1 B X T hd hu hC hx F N off ne (List.mem_cons_of_mem _ (List.mem_cons_of_mem _ yc)) (List.mem_cons_of_mem _ (List.mem_cons_of_mem _ ydc)) hqc (fun t o => src_list (List.mem_cons_of_mem _ (List.mem_cons_of_mem _ (List.mem_cons_of_mem _ hax)))) (fun tc ic9 jc9 => ?_)
  refine LCg.CompRest.succ ?_
  intro v I oI C oC D m2 h tk E' hv hC hx F N off ne
  cases hv
  refine c_turnT1 B X T hd hu hC hx F N off ne (List.mem_cons_of_mem _ (List.mem_cons_of_mem _ (List.mem_cons_of_mem _ yd))) (List.mem_cons_of_mem _ (List.mem_cons_of_mem _ (List.mem_cons_of_mem _ ydd))) hqd (fun t o => src_list (List.mem_cons_of_mem _ (List.mem_cons_of_mem _ (List.mem_cons_of_mem _ (List.mem_cons_of_mem _ hax))))) (fun td id9 jd9 => ?_)
  refine LCg.CompRest.succ ?_
  intro v I oI C oC D m2 h tk E' hv hC hx F N off ne
  cases hv
  refine c_turnT1 B X T hd hu hC hx F N off ne (List.mem_cons_of_mem _ (List.mem_cons_of_mem _ (List.mem_cons_of_mem _ (List.mem_cons_of_mem _ ye)))) (List.mem_cons_of_mem _ (List.mem_cons_of_mem _ (List.mem_cons_of_mem _ (List.mem_cons_of_mem _ yde)))) hqe (fun t o => src_list (List.mem_cons_of_mem _ (List.mem_cons_of_mem _ (List.mem_cons_of_mem _ (List.mem_cons_of_mem _ (List.mem_cons_of_mem _ hax)))))) (fun te ie9 je9 => ?_)
  refine LCg.CompRest.succ ?_
  intro v I oI C oC D m2 h tk E' hv hC hx F N off ne
  cases hv
  refine c_turnT1 B X T hd hu hC hx F N off ne (List.mem_cons_of_mem _ (List.mem_cons_of_mem _ (List.mem_cons_of_mem _ (List.mem_cons_of_mem _ (List.mem_cons_of_mem _ yf))))) (List.mem_cons_of_mem _ (List.mem_cons_of_mem _ (List.mem_cons_of_mem _ (List.mem_cons_of_mem _ (List.mem_cons_of_mem _ ydf))))) hqf (fun t o => src_list (List.mem_cons_of_mem _ (List.mem_cons_of_mem _ (List.mem_cons_of_mem _ (List.mem_cons_of_mem _ (List.mem_cons_of_mem _ (List.mem_cons_of_mem _ hax))))))) (fun tf if9 jf9 => ?_)
  exact LCg.CompRest.zero (fin ta ia9 ja9 tb ib9 jb9 tc ic9 jc9 td id9 jd9 te ie9 je9 tf if9 jf9)

theorem c_restT2 (B : Below A₀ base outer h₀) (X : (Mine.hd0.heap_1 w.params).In h₀) (T : Top VW LS mean mg mb h₀) (hd : dp + 100 < recursionLimit) (hu : un + 1000 < cLine) {ct cp : Addr} {Fin : List Value → List (Addr × Obj) → Prop} {ax : Addr} {nx : Nat} {n : Nat} {xa xb xc xd xe xf dxa dxb dxc dxd dxe dxf : Addr} {qa qb qc qd qe qf : Rat} {kxa1 kxa2 kxa3 kxa4 kxb1 kxb2 kxb3 kxb4 kxc1 kxc2 kxc3 kxc4 kxd1 kxd2 kxd3 kxd4 kxe1 kxe2 kxe3 kxe4 kxf1 kxf2 kxf3 kxf4 : Tok} (hax : (ax, listOf #[.ref xa, .ref xb, .ref xc, .ref xd, .ref xe, .ref xf] nx) ∈ news) (ya : (xa, instObj 155 dxa) ∈ news) (yda : (dxa, decObj w qa kxa1 kxa2 kxa3 kxa4) ∈ news) (hqa : DecQ qa n) (yb : (xb, instObj 155 dxb) ∈ news) (ydb : (dxb, decObj w qb kxb1 kxb2 kxb3 kxb4) ∈ news) (hqb : DecQ qb n) (yc : (xc, instObj 155 dxc) ∈ news) (ydc : (dxc, decObj w qc kxc1 kxc2 kxc3 kxc4) ∈ news) (hqc : DecQ qc n) (yd : (xd, instObj 155 dxd) ∈ news) (ydd : (dxd, decObj w qd kxd1 kxd2 kxd3 kxd4) ∈ news) (hqd : DecQ qd n) (ye : (xe, instObj 155 dxe) ∈ news) (yde : (dxe, decObj w qe kxe1 kxe2 kxe3 kxe4) ∈ news) (hqe : DecQ qe n) (yf : (xf, instObj 155 dxf) ∈ news) (ydf : (dxf, decObj w qf kxf1 kxf2 kxf3 kxf4) ∈ news) (hqf : DecQ qf n)
   (fin : ∀ ta ia9 ja9 tb ib9 jb9 tc ic9 jc9 td id9 jd9 te ie9 je9 tf if9 jf9, Fin [.ref ta, .ref tb, .ref tc, .ref td, .ref te, .ref tf] ((tf, ({ cls := .type "tuple", data := .seq #[.int (dtop qf) if9, .int (dplc qf) jf9] } : Obj)) :: (te, ({ cls := .type "tuple", data := .seq #[.int (dtop qe) ie9, .int (dplc qe) je9] } : Obj)) :: (td, ({ cls := .type "tuple", data := .seq #[.int (dtop qd) id9, .int (dplc qd) jd9] } : Obj)) :: (tc, ({ cls := .type "tuple", data := .seq #[.int (dtop qc) ic9, .int (dplc qc) jc9] } : Obj)) :: (tb, ({ cls := .type "tuple", data := .seq #[.int (dtop qb) ib9, .int (dplc qb) jb9] } : Obj)) :: (ta, ({ cls := .type "tuple", data := .seq #[.int (dtop qa) ia9, .int (dplc qa) ja9] } : Obj)) :: news)) :
   LCg.CompRest PySem.Challenge.rw_qz0079_01.row.prog w (ktrTop dp un gd cn lawScope L a₀ ccd [(PySem.Str.ofString "times", ct), (PySem.Str.ofString "pen", cp)] outer) h₀ L m (envX cn lawScope L a₀ ccd [(PySem.Str.ofString "times", ct), (PySem.Str.ofString "pen", cp)]) (PySem.Expr.Call (PySem.Expr.Attribute (PySem.Expr.Name "one" ⟨347, 51, 347, 54⟩) "told" ⟨347, 51, 347, 59⟩) [] [] ⟨347, 51, 347, 61⟩) (PySem.Str.ofString "one") oneScope [] s (LCg.SrcAt h₀ ax #[.ref xa, .ref xb, .ref xc, .ref xd, .ref xe, .ref xf]) (fun i v => (#[.ref xa, .ref xb, .ref xc, .ref xd, .ref xe, .ref xf] : Array Value)[i]? = some v) Fin 6 0 [] news := by
  refine LCg.CompRest.succ ?_
  intro v I oI C oC D m2 h tk E' hv hC hx F N off ne
  cases hv
  refine c_turnT2 B X T hd hu hC hx F N off ne ya yda hqa (fun t o => src_list (List.mem_cons_of_mem _ hax)) (fun ta ia9 ja9 => ?_)
  refine LCg.CompRest.succ ?_
  intro v I oI C oC D m2 h tk E' hv hC hx F N off ne
  cases hv
  refine c_turnT2 B X T hd hu hC hx F N off ne (List.mem_cons_of_mem _ yb) (List.mem_cons_of_mem _ ydb) hqb (fun t o => src_list (List.mem_cons_of_mem _ (List.mem_cons_of_mem _ hax))) (fun tb ib9 jb9 => ?_)
  refine LCg.CompRest.succ ?_
  intro v I oI C oC D m2 h tk E' hv hC hx F N off ne
  cases hv
  refine c_turnT2 B X T hd hu hC hx F N off ne (List.mem_cons_of_mem _ (List.mem_cons_of_mem _ yc)) (List.mem_cons_of_mem _ (List.mem_cons_of_mem _ ydc)) hqc (fun t o => src_list (List.mem_cons_of_mem _ (List.mem_cons_of_mem _ (List.mem_cons_of_mem _ hax)))) (fun tc ic9 jc9 => ?_)
  refine LCg.CompRest.succ ?_
  intro v I oI C oC D m2 h tk E' hv hC hx F N off ne
  cases hv
  refine c_turnT2 B X T hd hu hC hx F N off ne (List.mem_cons_of_mem _ (List.mem_cons_of_mem _ (List.mem_cons_of_mem _ yd))) (List.mem_cons_of_mem _ (List.mem_cons_of_mem _ (List.mem_cons_of_mem _ ydd))) hqd (fun t o => src_list (List.mem_cons_of_mem _ (List.mem_cons_of_mem _ (List.mem_cons_of_mem _ (List.mem_cons_of_mem _ hax))))) (fun td id9 jd9 => ?_)
  refine LCg.CompRest.succ ?_
  intro v I oI C oC D m2 h tk E' hv hC hx F N off ne
  cases hv
  refine c_turnT2 B X T hd hu hC hx F N off ne (List.mem_cons_of_mem _ (List.mem_cons_of_mem _ (List.mem_cons_of_mem _ (List.mem_cons_of_mem _ ye)))) (List.mem_cons_of_mem _ (List.mem_cons_of_mem _ (List.mem_cons_of_mem _ (List.mem_cons_of_mem _ yde)))) hqe (fun t o => src_list (List.mem_cons_of_mem _ (List.mem_cons_of_mem _ (List.mem_cons_of_mem _ (List.mem_cons_of_mem _ (List.mem_cons_of_mem _ hax)))))) (fun te ie9 je9 => ?_)
  refine LCg.CompRest.succ ?_
  intro v I oI C oC D m2 h tk E' hv hC hx F N off ne
  cases hv
  refine c_turnT2 B X T hd hu hC hx F N off ne (List.mem_cons_of_mem _ (List.mem_cons_of_mem _ (List.mem_cons_of_mem _ (List.mem_cons_of_mem _ (List.mem_cons_of_mem _ yf))))) (List.mem_cons_of_mem _ (List.mem_cons_of_mem _ (List.mem_cons_of_mem _ (List.mem_cons_of_mem _ (List.mem_cons_of_mem _ ydf))))) hqf (fun t o => src_list (List.mem_cons_of_mem _ (List.mem_cons_of_mem _ (List.mem_cons_of_mem _ (List.mem_cons_of_mem _ (List.mem_cons_of_mem _ (List.mem_cons_of_mem _ hax))))))) (fun tf if9 jf9 => ?_)
  exact LCg.CompRest.zero (fin ta ia9 ja9 tb ib9 jb9 tc ic9 jc9 td id9 jd9 te ie9 je9 tf if9 jf9)
end
end PartC27
section PartC28
/-- what the law has drawn behind its fourth statement -/
structure Draws1 (fa fb wd hg : Int) : Prop where
  pfa : -3 ≤ fa ∧ fa ≤ 3
  pfb : -3 ≤ fb ∧ fb ≤ 3
  pwd : wd = 1 ∨ wd = 2 ∨ wd = 4 ∨ wd = 5 ∨ wd = 10 ∨ wd = 0
  phg : hg = 1 ∨ hg = 2 ∨ hg = 4 ∨ hg = 5 ∨ hg = 10 ∨ hg = 0
/-- what the law has drawn behind its sixth statement -/
structure Draws2 (fa fb fc fd wd hg ma mb mc md me mf : Int) : Prop where
  d1 : Draws1 fa fb wd hg
  pfc : fc = fa + wd
  pfd : fd = fb + hg
  pmt : (ma = 1 ∧ mb = 0 ∧ mc = 0 ∧ md = 1 ∧ me = 0 ∧ mf = 0) ∨ (ma = 0 ∧ mb = 1 ∧ mc = -1 ∧ md = 0 ∧ me = 3 ∧ mf = 4) ∨ (ma = 2 ∧ mb = 0 ∧ mc = 0 ∧ md = 1 ∧ me = 0 ∧ mf = 5) ∨ (ma = -1 ∧ mb = 0 ∧ mc = 0 ∧ md = 1 ∧ me = 0 ∧ mf = 0)
theorem Draws2.all {fa fb fc fd wd hg ma mb mc md me mf ta tb tc td : Int} (D : Draws2 fa fb fc fd wd hg ma mb mc md me mf) (h1 : -9 ≤ ta ∧ ta ≤ 10) (h2 : -9 ≤ tb ∧ tb ≤ 10) (h3 : ta ≤ tc ∧ tc ≤ ta + 8) (h4 : tb ≤ td ∧ td ≤ tb + 8) : Draws fa fb fc fd wd hg ma mb mc md me mf ta tb tc td :=
  ⟨D.d1.pfa, D.d1.pfb, D.d1.pwd, D.d1.phg, D.pfc, D.pfd, D.pmt, h1, h2, h3, h4⟩
theorem Draws1.small {fa fb wd hg : Int} (D : Draws1 fa fb wd hg) : (-3 ≤ fa ∧ fa ≤ 3) ∧ (-3 ≤ fb ∧ fb ≤ 3) ∧ (0 ≤ wd ∧ wd ≤ 10) ∧ (0 ≤ hg ∧ hg ≤ 10) := by
  obtain ⟨a, b, c, d⟩ := D
  exact ⟨a, b, six_bd c, six_bd d⟩
theorem Draws2.small {fa fb fc fd wd hg ma mb mc md me mf : Int} (D : Draws2 fa fb fc fd wd hg ma mb mc md me mf) : (-3 ≤ fa ∧ fa ≤ 3) ∧ (-3 ≤ fb ∧ fb ≤ 3) ∧ (0 ≤ wd ∧ wd ≤ 10) ∧ (0 ≤ hg ∧ hg ≤ 10) := D.d1.small
/-- the pen's and the cells' places, named -/
def Cells (_p _ct _cp _c : Addr) : Prop := True
theorem sub_of {p ct cp c : Addr} {l out : List (Addr × Obj)} (_h : Cells p ct cp c) (r : LOut p ct cp c l out) : ∀ q ∈ out, q ∈ l := r.sub
/-- the law's four places and what else of the ledger is to stay -/
def Base (_p _ct _cp _c : Addr) (_out : List (Addr × Obj)) : Prop := True
theorem base_any (p ct cp c : Addr) (out : List (Addr × Obj)) : Base p ct cp c out := True.intro
theorem news_base {p ct cp c : Addr} {out all : List (Addr × Obj)} {P oct ocp oc : Obj} {h₀ h : Heap} {L : Addr} (_h : Base p ct cp c out) (N : News h₀ L h all) (h1 : (p, P) ∈ all) (h2 : (ct, oct) ∈ all) (h3 : (cp, ocp) ∈ all) (h4 : (c, oc) ∈ all) (hs : ∀ q ∈ out, q ∈ all) : News h₀ L h ((p, P) :: (ct, oct) :: (cp, ocp) :: (c, oc) :: out) := by
  intro q hq
  simp only [List.mem_cons] at hq
  rcases hq with rfl | rfl | rfl | rfl | hq
  · exact N _ h1
  · exact N _ h2
  · exact N _ h3
  · exact N _ h4
  · exact N _ (hs q hq)
/-- an address whose entry the ledger may lose -/
def Lost (_d : Addr) : Prop := True
theorem lost_any (d : Addr) : Lost d := True.intro
inductive Wo (d : Addr) : List (Addr × Obj) → List (Addr × Obj) → Prop
  | skip {o : Obj} {l out : List (Addr × Obj)} (r : Wo d l out) : Wo d ((d, o) :: l) out
  | take {a : Addr} {o : Obj} {l out : List (Addr × Obj)} (r : Wo d l out) : Wo d ((a, o) :: l) ((a, o) :: out)
  | rest {l : List (Addr × Obj)} : Wo d l l
theorem Wo.sub {d : Addr} {l out : List (Addr × Obj)} (h : Wo d l out) : ∀ q ∈ out, q ∈ l := by
  induction h with
  | skip _ ih => exact fun q hq => List.mem_cons_of_mem _ (ih q hq)
  | take _ ih =>
    intro q hq
    rcases List.mem_cons.mp hq with rfl | hq
    · exact List.mem_cons_self
    · exact List.mem_cons_of_mem _ (ih q hq)
  | rest => exact fun q hq => hq
theorem wo_news {d : Addr} {h₀ h : Heap} {L : Addr} {l out : List (Addr × Obj)} (_h : Lost d) (N : News h₀ L h l) (r : Wo d l out) : News h₀ L h out := fun q hq => N q (r.sub q hq)
/-- what the law picks for numbers, told of the ledger -/
theorem nums_of {h₀ h : Heap} {L : Addr} {M : List (Addr × Obj)} {l1 l2 l3 : Addr} {n1 n2 n3 : Nat} {a1 a2 a3 a4 a5 a6 b1 b2 b3 b4 b5 b6 c1 c2 c3 c4 c5 c6 : Tok} {v : Value}
   (_N : News h₀ L h M) (_h1 : (l1, listOf #[.int 0 a1, .int 1 a2, .int (-1) a3, .int 0 a4, .int 3 a5, .int 4 a6] n1) ∈ M) (_h2 : (l2, listOf #[.int 2 b1, .int 0 b2, .int 0 b3, .int 1 b4, .int 0 b5, .int 5 b6] n2) ∈ M) (_h3 : (l3, listOf #[.int (-1) c1, .int 0 c2, .int 0 c3, .int 1 c4, .int 0 c5, .int 0 c6] n3) ∈ M)
   (hv : v ∈ [Value.none, .ref l1, .ref l2, .ref l3]) : ∃ ma mb mc md me mf, NumIs [(l1, listOf #[.int 0 a1, .int 1 a2, .int (-1) a3, .int 0 a4, .int 3 a5, .int 4 a6] n1), (l2, listOf #[.int 2 b1, .int 0 b2, .int 0 b3, .int 1 b4, .int 0 b5, .int 5 b6] n2), (l3, listOf #[.int (-1) c1, .int 0 c2, .int 0 c3, .int 1 c4, .int 0 c5, .int 0 c6] n3)] v ma mb mc md me mf ∧ ((ma = 1 ∧ mb = 0 ∧ mc = 0 ∧ md = 1 ∧ me = 0 ∧ mf = 0) ∨ (ma = 0 ∧ mb = 1 ∧ mc = -1 ∧ md = 0 ∧ me = 3 ∧ mf = 4) ∨ (ma = 2 ∧ mb = 0 ∧ mc = 0 ∧ md = 1 ∧ me = 0 ∧ mf = 5) ∨ (ma = -1 ∧ mb = 0 ∧ mc = 0 ∧ md = 1 ∧ me = 0 ∧ mf = 0)) := by
  simp only [List.mem_cons, List.not_mem_nil, or_false] at hv
  rcases hv with rfl | rfl | rfl | rfl
  · exact ⟨1, 0, 0, 1, 0, 0, .none, .inl ⟨rfl, rfl, rfl, rfl, rfl, rfl⟩⟩
  · exact ⟨0, 1, -1, 0, 3, 4, .some (.head _), .inr (.inl ⟨rfl, rfl, rfl, rfl, rfl, rfl⟩)⟩
  · exact ⟨2, 0, 0, 1, 0, 5, .some (.tail _ (.head _)), .inr (.inr (.inl ⟨rfl, rfl, rfl, rfl, rfl, rfl⟩))⟩
  · exact ⟨-1, 0, 0, 1, 0, 0, .some (.tail _ (.tail _ (.head _))), .inr (.inr (.inr ⟨rfl, rfl, rfl, rfl, rfl, rfl⟩))⟩
end PartC28
section PartCK
theorem lines_CK_1 : True := by
  k_with_none
  k_with "c mem" =>
    first | ((with_reducible refine' mem_here ?z707zh9); (case z707zh9 => exact rfl)) | ((with_reducible refine' mem_nth 1 ?z707zh9); (case z707zh9 => exact rfl)) | ((with_reducible refine' mem_nth 2 ?z707zh9); (case z707zh9 => exact rfl)) | ((with_reducible refine' mem_nth 3 ?z707zh9); (case z707zh9 => exact rfl)) | ((with_reducible refine' mem_nth 4 ?z707zh9); (case z707zh9 => exact rfl)) | ((with_reducible refine' mem_nth 5 ?z707zh9); (case z707zh9 => exact rfl)) | ((with_reducible refine' mem_nth 6 ?z707zh9); (case z707zh9 => exact rfl)) | ((with_reducible refine' mem_nth 7 ?z707zh9); (case z707zh9 => exact rfl)) | ((with_reducible refine' mem_nth 8 ?z707zh9); (case z707zh9 => exact rfl)) | ((with_reducible refine' mem_nth 9 ?z707zh9); (case z707zh9 => exact rfl)) | ((with_reducible refine' mem_skip ?_); walk_at "c mem") | (with_reducible exact List.mem_append_left _ (by with_reducible assumption)) | ktr_member | ((with_reducible refine' List.mem_cons_of_mem _ ?_); walk_at "c mem") | ((with_reducible refine' List.mem_append_right _ ?_); walk_at "c mem")
  k_with "c room" =>
    with_reducible first | assumption | exact room1 (by assumption) rfl | exact room2 (by assumption) rfl | exact room3 (by assumption) rfl | exact room4 (by assumption) rfl
  k_with "c le" =>
    with_reducible first | assumption | exact Nat.le_trans (by assumption) (by decide)
  k_with "c lt1" =>
    with_reducible first | assumption | exact cj0 | exact cj1 | exact cj2 | exact cj3 | exact cj4 | exact cj5 | exact cj6 | exact cj7 | exact cj8 | exact cj9 | exact cj10 | exact cj11 | exact cj12 | exact cj13 | exact cj14 | exact cj15 | exact cj16 | exact cj17 | exact cj18 | exact cj19 | exact cj20 | exact cj21 | exact cj22 | exact cj23 | exact And.right (by with_reducible assumption) | exact And.right (And.right (by with_reducible assumption)) | exact And.right (And.right (And.right (by with_reducible assumption))) | exact And.right (And.right (And.right (And.right (by with_reducible assumption))))
  k_with "c lt2" =>
    ((with_reducible refine' Nat.lt_trans ?z711za9 ?z711zb9); (case z711zb9 => with_reducible assumption); (case z711za9 => walk_at "c lt1"))
  k_with "c lt" =>
    first | walk_at "c lt1" | walk_at "c lt2"
  k_with "c up3" =>
    with_reducible first | exact abv3 (by assumption) | exact abv3_1 (by assumption) | exact abv3_2 (by assumption) | exact abv3_3 (by assumption) | exact abv3_4 (by assumption) | (refine' Abv3.tr ?z713za9 ?z713zb9; (case z713za9 => assumption); (case z713zb9 => walk_at "c up3"))
  k_with "c ne" =>
    first | with_reducible (first | assumption | exact And.left (by assumption) | exact Ne.symm (And.left (by assumption)) | exact And.left (And.right (by assumption)) | exact Ne.symm (And.left (And.right (by assumption))) | exact And.right (And.right (by assumption)) | exact Ne.symm (And.right (And.right (by assumption))) | exact neq_lt (by assumption) | exact neq_gt (by assumption) | exact nl0 | exact nr0 | exact nl1 | exact nr1 | exact nl2 | exact nr2 | exact nl3 | exact nr3 | exact nl4 | exact nr4 | exact nl5 | exact nr5 | exact nl6 | exact nr6 | exact nl7 | exact nr7 | exact nl8 | exact nr8 | exact nl9 | exact nr9 | exact nl10 | exact nr10 | exact nl11 | exact nr11 | exact nl12 | exact nr12 | exact nl13 | exact nr13 | exact nl14 | exact nr14 | exact nl15 | exact nr15 | exact nl16 | exact nr16 | exact nl17 | exact nr17 | exact nl18 | exact nr18 | exact nl19 | exact nr19 | exact nl20 | exact nr20 | exact nl21 | exact nr21 | exact nl22 | exact nr22 | exact nl23 | exact nr23) | ((with_reducible refine' neq_lt ?z714zz9); (case z714zz9 => walk_at "c lt2")) | ((with_reducible refine' neq_gt ?z714zz9); (case z714zz9 => walk_at "c lt2")) | ((try dsimp only); omega)
  k_with "c dp" =>
    ((try simp only [depth_under_make, depth_under_kw, depth_in1, depth_deeper, depth_caller]); (try dsimp only [ktrTop]); first | walk_at "c room" | omega | decide)
  k_with "c un" =>
    ((try simp only [units_make, units_in1, units_deeper, Around.mark_units, units_caller]); (try dsimp only [ktrTop]); first | walk_at "c room" | omega | decide)
  k_with "c in" =>
    first | assumption | exact List.mem_append_left _ (by walk_at "c in") | exact List.mem_append_right _ (by walk_at "c in") | exact List.mem_cons_of_mem _ (by walk_at "c in")
  k_with "c sub" =>
    first | (refine List.forall_mem_cons.mpr ⟨?z718za, ?z718zb⟩; (case z718za => walk_at "c mem"); (case z718zb => walk_at "c sub")) | (refine List.forall_mem_append.mpr ⟨?z718za, ?z718zb⟩; (case z718za => walk_at "c sub"); (case z718zb => walk_at "c sub")) | exact List.forall_mem_nil _ | (intro p9 h9; walk_at "c in")
  k_with "c out" =>
    first | ((with_reducible refine' LOut.skip ?z719za ?z719zb); (case z719za => first | exact Or.inl rfl | exact Or.inr (Or.inl rfl) | exact Or.inr (Or.inr (Or.inl rfl)) | exact Or.inr (Or.inr (Or.inr rfl))); (case z719zb => walk_at "c out")) | ((with_reducible refine' LOut.take ?z719za); (case z719za => walk_at "c out")) | ((with_reducible refine' LOut.app ?z719za); (case z719za => walk_at "c out")) | exact LOut.rest
  k_with "c up" =>
    first | (refine List.forall_mem_cons.mpr ⟨?z720za, ?z720zb⟩; (case z720za => ((try dsimp only); first | walk_at "c lt" | exact (by assumption : ∀ q ∈ _, q.1 < _) _ (by walk_at "c mem") | omega)); (case z720zb => walk_at "c up")) | (refine List.forall_mem_append.mpr ⟨?z720za, ?z720zb⟩; (case z720za => exact fresh_up (by assumption) (by walk_at "c mem")); (case z720zb => walk_at "c up")) | exact List.forall_mem_nil _ | assumption
  k_with "c pen" =>
    first | exact PenOut.done (by walk_at "c off") | (refine' PenOut.take ?z721za ?z721zb; (case z721za => k_ne); (case z721zb => walk_at "c pen"))
  k_with "c off" =>
    first | assumption | exact List.forall_mem_nil _ | (refine List.forall_mem_cons.mpr ⟨?z722za, ?z722zb⟩; (case z722za => k_ne); (case z722zb => walk_at "c off"))
  k_with "c bnd" =>
    with_reducible (first | assumption | exact Bnd.pow _ | (refine' Bnd.fdiv ?z723za; (case z723za => walk_at "c bnd")) | (exact Bnd.mul (by walk_at "c bnd") (by walk_at "c bnd")) | (exact Bnd.add1 (by walk_at "c bnd") (by walk_at "c bnd")) | (exact Bnd.sub1 (by walk_at "c bnd") (by walk_at "c bnd")) | (exact Bnd.add (by walk_at "c bnd") (by walk_at "c bnd")) | (exact Bnd.sub (by walk_at "c bnd") (by walk_at "c bnd")))
  k_with "c ar" =>
    first | assumption | decide | omega | (split <;> omega)
  k_with "c mul" =>
    exact mulOk_bnd (by walk_at "c bnd") (by walk_at "c bnd") (by walk_at "c ar") (by walk_at "c ar")
  k_with "binaryOp Pow int int" =>
    ((with_reducible refine pow_int_small ?z726zkb1 ?z726zkb2 ?z726zkb3 ?_); (case z726zkb1 => walk_at "c ar"); (case z726zkb2 => walk_at "c ar"); (case z726zkb3 => decide))
  k_with "call ref" =>
    (k_here; (with_reducible show wpAny _ _ (call (Prod.fst _) (_ ++ _)) _ _ _); dsimp only [List.nil_append, List.cons_append])
  k_with "subscriptTail" =>
    (k_here; (with_reducible show wpAny _ _ (subscriptTail _ _ (Value.ref _) (Value.int _ _)) _ _ _); k_dflt (first
    | (refine' item_tupleT ?z728zt ?z728za ?z728zb ?z728zc ?z728zd ?_; (case z728zt => exact News.isTup (by k_asm) (by k_mem)); (case z728za => decide); (case z728zb => decide); (case z728zc => exact rfl); (case z728zd => exact rfl); k_whole)
    | (refine' c_item ?z728zN ?z728zm ?z728za ?z728zb ?z728zc ?_ ?z728zz; (case z728zN => k_asm); (case z728zm => k_mem); (case z728za => decide); (case z728zb => decide); (case z728zc => exact rfl); (case z728zz => with_unfolding_all rfl); k_whole)))
  k_with "subscriptTail Name Constant ref int" =>
    (k_here; (with_reducible show wpAny _ _ (subscriptTail _ _ (Value.ref _) (Value.int _ _)) _ _ _); k_dflt (first
    | (refine' item_tupleT ?z729zt ?z729za ?z729zb ?z729zc ?z729zd ?_; (case z729zt => exact News.isTup (by k_asm) (by k_mem)); (case z729za => decide); (case z729zb => decide); (case z729zc => exact rfl); (case z729zd => exact rfl); k_whole)
    | (refine' c_item ?z729zN ?z729zm ?z729za ?z729zb ?z729zc ?_ ?z729zz; (case z729zN => k_asm); (case z729zm => k_mem); (case z729za => decide); (case z729zb => decide); (case z729zc => exact rfl); (case z729zz => with_unfolding_all rfl); k_whole)))
  trivial
section
variable {w : World} {mean : ExcName → Option Value} {mg mb : PySem.Str → Option Value} {dp un : Nat} {gd : Option (List Code)} {cn : PySem.Str} {cs : Scope} {a₀ : Addr} {ccd : Value} {cl : List (PySem.Str × Addr)} {outer : List Env}
  {A₀ : Around} {base h₀ : Heap} {L : Addr} {m : PySem.Str → Option Value} {s : Shared} {news : List (Addr × Obj)} {Q : Flow → Shared → Prop} {E : Value → Shared → Prop}
theorem lines_CK_2 : True := by
  k_with "c les" =>
    ((with_reducible refine' sub_of ?z730zhc9 ?z730zhr9); (case z730zhc9 => with_reducible assumption); (case z730zhr9 => walk_at "c out"))
  k_with "c wo" =>
    first | ((with_reducible refine' Wo.skip ?z731za); (case z731za => walk_at "c wo")) | ((with_reducible refine' Wo.take ?z731za); (case z731za => walk_at "c wo")) | exact Wo.rest
  k_with "eval Name" =>
    (k_here; k_dflt (refine' nameX_L ?z732zF ?z732zv ?_ ?z732za ?z732zb; (case z732zF => k_asm); (case z732za => exact rfl); (case z732zb => exact rfl); (case z732zv => first | exact rfl | assumption); k_whole))
  k_with "call ref" =>
    (k_here; (with_reducible show wpAny _ _ (call (Value.ref 510) [Value.ref _, Value.ref _, Value.int _ _]) _ _ _); k_dflt (refine' c_pln ?z733zcB ?z733zcF ?z733zcX ?z733zcN ?z733zcT ?z733zcK ?z733zcD ?z733zcU ?z733zp0 ?z733zp1 ?z733zp2 ?z733zp3 ?z733zp4 ?_; (case z733zcB => k_asm); (case z733zcF => k_asm); (case z733zcX => k_asm); (case z733zcN => k_asm); (case z733zcT => k_asm); (case z733zcK => first | exact rfl | assumption); (case z733zcD => walk_at "c dp"); (case z733zcU => walk_at "c un"); (case z733zp0 => k_mem); (case z733zp1 => k_mem); (case z733zp2 => k_mem); (case z733zp3 => exact ⟨by assumption, by assumption⟩); (case z733zp4 => exact rfl); intro h' tk' F' N'; (try k_sweep); (try dsimp only); (try k_fold)))
  trivial

theorem sK (B : Below A₀ base outer h₀) (F : Fr h₀ L s.heap m) (X : (Mine.hd0.heap_1 w.params).In h₀) (T : Top VW LS mean mg mb h₀) (hd : dp + 100 < recursionLimit) (hu : un + 1000 < cLine) {cp ct : Addr} {led : List (Addr × Obj)} (N : News h₀ L s.heap led) {sh dsh stb str : Addr} {ks1 ks2 : Tok} (hsh : (sh, instObj 473 dsh) ∈ led) (hdsh : (dsh, shelfObj w stb str ks1 ks2) ∈ led) (m_shelf : m (PySem.Str.ofString "shelf") = some (.ref sh)) {lt : Addr} (m_target : m (PySem.Str.ofString "target") = some (.ref lt)) (ret : ∀ m' h' tk', Fr h₀ L h' m' → Q (.ret (.bool true)) { s with heap := h', toks := tk' }) : wpAny (model PySem.Challenge.rw_qz0079_01.row.prog w) (ktrTop dp un gd cn lawScope L a₀ ccd [(PySem.Str.ofString "times", ct), (PySem.Str.ofString "pen", cp)] outer) (execs (lawBody.drop 16) (envX cn lawScope L a₀ ccd [(PySem.Str.ofString "times", ct), (PySem.Str.ofString "pen", cp)])) Q (fun _ _ => False) s := by
  conv in List.drop _ lawBody => whnf
  conv in (occs := *) lawScope => whnf
  revert X; k_fill; intro X
  w_on
  (try k_fold)
  k_steps
  all_goals (
    rename Fr h₀ L _ _ => kF
    exact ret _ _ _ kF)
end
end PartCK
section PartCW
theorem lines_CW_1 : True := by
  k_with_none
  k_with "c mem" =>
    first | ((with_reducible refine' mem_here ?z734zh9); (case z734zh9 => exact rfl)) | ((with_reducible refine' mem_nth 1 ?z734zh9); (case z734zh9 => exact rfl)) | ((with_reducible refine' mem_nth 2 ?z734zh9); (case z734zh9 => exact rfl)) | ((with_reducible refine' mem_nth 3 ?z734zh9); (case z734zh9 => exact rfl)) | ((with_reducible refine' mem_nth 4 ?z734zh9); (case z734zh9 => exact rfl)) | ((with_reducible refine' mem_nth 5 ?z734zh9); (case z734zh9 => exact rfl)) | ((with_reducible refine' mem_nth 6 ?z734zh9); (case z734zh9 => exact rfl)) | ((with_reducible refine' mem_nth 7 ?z734zh9); (case z734zh9 => exact rfl)) | ((with_reducible refine' mem_nth 8 ?z734zh9); (case z734zh9 => exact rfl)) | ((with_reducible refine' mem_nth 9 ?z734zh9); (case z734zh9 => exact rfl)) | ((with_reducible refine' mem_skip ?_); walk_at "c mem") | (with_reducible exact List.mem_append_left _ (by with_reducible assumption)) | ktr_member | ((with_reducible refine' List.mem_cons_of_mem _ ?_); walk_at "c mem") | ((with_reducible refine' List.mem_append_right _ ?_); walk_at "c mem")
  k_with "c room" =>
    with_reducible first | assumption | exact room1 (by assumption) rfl | exact room2 (by assumption) rfl | exact room3 (by assumption) rfl | exact room4 (by assumption) rfl
  k_with "c le" =>
    with_reducible first | assumption | exact Nat.le_trans (by assumption) (by decide)
  k_with "c lt1" =>
    with_reducible first | assumption | exact cj0 | exact cj1 | exact cj2 | exact cj3 | exact cj4 | exact cj5 | exact cj6 | exact cj7 | exact cj8 | exact cj9 | exact cj10 | exact cj11 | exact cj12 | exact cj13 | exact cj14 | exact cj15 | exact cj16 | exact cj17 | exact cj18 | exact cj19 | exact cj20 | exact cj21 | exact cj22 | exact cj23 | exact And.right (by with_reducible assumption) | exact And.right (And.right (by with_reducible assumption)) | exact And.right (And.right (And.right (by with_reducible assumption))) | exact And.right (And.right (And.right (And.right (by with_reducible assumption))))
  k_with "c lt2" =>
    ((with_reducible refine' Nat.lt_trans ?z738za9 ?z738zb9); (case z738zb9 => with_reducible assumption); (case z738za9 => walk_at "c lt1"))
  k_with "c lt" =>
    first | walk_at "c lt1" | walk_at "c lt2"
  k_with "c up3" =>
    with_reducible first | exact abv3 (by assumption) | exact abv3_1 (by assumption) | exact abv3_2 (by assumption) | exact abv3_3 (by assumption) | exact abv3_4 (by assumption) | (refine' Abv3.tr ?z740za9 ?z740zb9; (case z740za9 => assumption); (case z740zb9 => walk_at "c up3"))
  k_with "c ne" =>
    first | with_reducible (first | assumption | exact And.left (by assumption) | exact Ne.symm (And.left (by assumption)) | exact And.left (And.right (by assumption)) | exact Ne.symm (And.left (And.right (by assumption))) | exact And.right (And.right (by assumption)) | exact Ne.symm (And.right (And.right (by assumption))) | exact neq_lt (by assumption) | exact neq_gt (by assumption) | exact nl0 | exact nr0 | exact nl1 | exact nr1 | exact nl2 | exact nr2 | exact nl3 | exact nr3 | exact nl4 | exact nr4 | exact nl5 | exact nr5 | exact nl6 | exact nr6 | exact nl7 | exact nr7 | exact nl8 | exact nr8 | exact nl9 | exact nr9 | exact nl10 | exact nr10 | exact nl11 | exact nr11 | exact nl12 | exact nr12 | exact nl13 | exact nr13 | exact nl14 | exact nr14 | exact nl15 | exact nr15 | exact nl16 | exact nr16 | exact nl17 | exact nr17 | exact nl18 | exact nr18 | exact nl19 | exact nr19 | exact nl20 | exact nr20 | exact nl21 | exact nr21 | exact nl22 | exact nr22 | exact nl23 | exact nr23) | ((with_reducible refine' neq_lt ?z741zz9); (case z741zz9 => walk_at "c lt2")) | ((with_reducible refine' neq_gt ?z741zz9); (case z741zz9 => walk_at "c lt2")) | ((try dsimp only); omega)
  k_with "c dp" =>
    ((try simp only [depth_under_make, depth_under_kw, depth_in1, depth_deeper, depth_caller]); (try dsimp only [ktrTop]); first | walk_at "c room" | omega | decide)
  k_with "c un" =>
    ((try simp only [units_make, units_in1, units_deeper, Around.mark_units, units_caller]); (try dsimp only [ktrTop]); first | walk_at "c room" | omega | decide)
  k_with "c in" =>
    first | assumption | exact List.mem_append_left _ (by walk_at "c in") | exact List.mem_append_right _ (by walk_at "c in") | exact List.mem_cons_of_mem _ (by walk_at "c in")
  k_with "c sub" =>
    first | (refine List.forall_mem_cons.mpr ⟨?z745za, ?z745zb⟩; (case z745za => walk_at "c mem"); (case z745zb => walk_at "c sub")) | (refine List.forall_mem_append.mpr ⟨?z745za, ?z745zb⟩; (case z745za => walk_at "c sub"); (case z745zb => walk_at "c sub")) | exact List.forall_mem_nil _ | (intro p9 h9; walk_at "c in")
  k_with "c out" =>
    first | ((with_reducible refine' LOut.skip ?z746za ?z746zb); (case z746za => first | exact Or.inl rfl | exact Or.inr (Or.inl rfl) | exact Or.inr (Or.inr (Or.inl rfl)) | exact Or.inr (Or.inr (Or.inr rfl))); (case z746zb => walk_at "c out")) | ((with_reducible refine' LOut.take ?z746za); (case z746za => walk_at "c out")) | ((with_reducible refine' LOut.app ?z746za); (case z746za => walk_at "c out")) | exact LOut.rest
  k_with "c up" =>
    first | (refine List.forall_mem_cons.mpr ⟨?z747za, ?z747zb⟩; (case z747za => ((try dsimp only); first | walk_at "c lt" | exact (by assumption : ∀ q ∈ _, q.1 < _) _ (by walk_at "c mem") | omega)); (case z747zb => walk_at "c up")) | (refine List.forall_mem_append.mpr ⟨?z747za, ?z747zb⟩; (case z747za => exact fresh_up (by assumption) (by walk_at "c mem")); (case z747zb => walk_at "c up")) | exact List.forall_mem_nil _ | assumption
  k_with "c pen" =>
    first | exact PenOut.done (by walk_at "c off") | (refine' PenOut.take ?z748za ?z748zb; (case z748za => k_ne); (case z748zb => walk_at "c pen"))
  k_with "c off" =>
    first | assumption | exact List.forall_mem_nil _ | (refine List.forall_mem_cons.mpr ⟨?z749za, ?z749zb⟩; (case z749za => k_ne); (case z749zb => walk_at "c off"))
  k_with "c bnd" =>
    with_reducible (first | assumption | exact Bnd.pow _ | (refine' Bnd.fdiv ?z750za; (case z750za => walk_at "c bnd")) | (exact Bnd.mul (by walk_at "c bnd") (by walk_at "c bnd")) | (exact Bnd.add1 (by walk_at "c bnd") (by walk_at "c bnd")) | (exact Bnd.sub1 (by walk_at "c bnd") (by walk_at "c bnd")) | (exact Bnd.add (by walk_at "c bnd") (by walk_at "c bnd")) | (exact Bnd.sub (by walk_at "c bnd") (by walk_at "c bnd")))
  k_with "c ar" =>
    first | assumption | decide | omega | (split <;> omega)
  k_with "c mul" =>
    exact mulOk_bnd (by walk_at "c bnd") (by walk_at "c bnd") (by walk_at "c ar") (by walk_at "c ar")
  k_with "binaryOp Pow int int" =>
    ((with_reducible refine pow_int_small ?z753zkb1 ?z753zkb2 ?z753zkb3 ?_); (case z753zkb1 => walk_at "c ar"); (case z753zkb2 => walk_at "c ar"); (case z753zkb3 => decide))
  k_with "call ref" =>
    (k_here; (with_reducible show wpAny _ _ (call (Prod.fst _) (_ ++ _)) _ _ _); dsimp only [List.nil_append, List.cons_append])
  k_with "subscriptTail" =>
    (k_here; (with_reducible show wpAny _ _ (subscriptTail _ _ (Value.ref _) (Value.int _ _)) _ _ _); k_dflt (first
    | (refine' item_tupleT ?z755zt ?z755za ?z755zb ?z755zc ?z755zd ?_; (case z755zt => exact News.isTup (by k_asm) (by k_mem)); (case z755za => decide); (case z755zb => decide); (case z755zc => exact rfl); (case z755zd => exact rfl); k_whole)
    | (refine' c_item ?z755zN ?z755zm ?z755za ?z755zb ?z755zc ?_ ?z755zz; (case z755zN => k_asm); (case z755zm => k_mem); (case z755za => decide); (case z755zb => decide); (case z755zc => exact rfl); (case z755zz => with_unfolding_all rfl); k_whole)))
  k_with "subscriptTail Name Constant ref int" =>
    (k_here; (with_reducible show wpAny _ _ (subscriptTail _ _ (Value.ref _) (Value.int _ _)) _ _ _); k_dflt (first
    | (refine' item_tupleT ?z756zt ?z756za ?z756zb ?z756zc ?z756zd ?_; (case z756zt => exact News.isTup (by k_asm) (by k_mem)); (case z756za => decide); (case z756zb => decide); (case z756zc => exact rfl); (case z756zd => exact rfl); k_whole)
    | (refine' c_item ?z756zN ?z756zm ?z756za ?z756zb ?z756zc ?_ ?z756zz; (case z756zN => k_asm); (case z756zm => k_mem); (case z756za => decide); (case z756zb => decide); (case z756zc => exact rfl); (case z756zz => with_unfolding_all rfl); k_whole)))
  trivial
section
variable {w : World} {mean : ExcName → Option Value} {mg mb : PySem.Str → Option Value} {dp un : Nat} {gd : Option (List Code)} {cn : PySem.Str} {cs : Scope} {a₀ : Addr} {ccd : Value} {cl : List (PySem.Str × Addr)} {outer : List Env}
  {A₀ : Around} {base h₀ : Heap} {L : Addr} {m : PySem.Str → Option Value} {s : Shared} {news : List (Addr × Obj)} {Q : Flow → Shared → Prop} {E : Value → Shared → Prop}
theorem lines_CW_2 : True := by
  k_with "c les" =>
    ((with_reducible refine' sub_of ?z757zhc9 ?z757zhr9); (case z757zhc9 => with_reducible assumption); (case z757zhr9 => walk_at "c out"))
  k_with "c wo" =>
    first | ((with_reducible refine' Wo.skip ?z758za); (case z758za => walk_at "c wo")) | ((with_reducible refine' Wo.take ?z758za); (case z758za => walk_at "c wo")) | exact Wo.rest
  k_with "eval Name" =>
    (k_here; k_dflt (refine' nameX_L ?z759zF ?z759zv ?_ ?z759za ?z759zb; (case z759zF => k_asm); (case z759za => exact rfl); (case z759zb => exact rfl); (case z759zv => first | exact rfl | assumption); k_whole))
  k_with "call ref" =>
    (k_here; (with_reducible show wpAny _ _ (call (Value.ref 510) [Value.ref _, Value.ref _, Value.int _ _, Value.str _ _]) _ _ _); k_dflt (refine' c_placed4 ?z760zcB ?z760zcF ?z760zcX ?z760zcN ?z760zcT ?z760zcK ?z760zcD ?z760zcU ?z760zp0 ?z760zp1 ?z760zp2 ?z760zp3 ?z760zp4 ?z760zp5 ?z760zp6 ?z760zp7 ?z760zp8 ?_; (case z760zcB => k_asm); (case z760zcF => k_asm); (case z760zcX => k_asm); (case z760zcN => k_asm); (case z760zcT => k_asm); (case z760zcK => first | exact rfl | assumption); (case z760zcD => walk_at "c dp"); (case z760zcU => walk_at "c un"); (case z760zp0 => k_mem); (case z760zp1 => k_mem); (case z760zp2 => exact fun _ h9 => h9); (case z760zp3 => exact HeadIs.mono (by with_reducible assumption) (by walk_at "c sub")); (case z760zp4 => exact Draws.frame (by assumption)); (case z760zp5 => exact Draws.target (by assumption)); (case z760zp6 => exact Draws.mat (by assumption)); (case z760zp7 => exact Draws.gx (by assumption)); (case z760zp8 => exact Draws.gy (by assumption)); intro x' M' qa' qb' qc' qd' qe' qf' h' tk' F' N' l1' hM' hA'; (obtain ⟨e1', e2', e3', e4', e5', e6'⟩ := am_same0 (by assumption) hA'); (subst e1'; subst e2'; subst e3'; subst e4'; subst e5'; subst e6'); clear hA'; (have hz9' := hM'); (obtain ⟨zdx', zk1', zk2', zk3', zk4', zk5', zk6', za', zda', zka1', zka2', zka3', zka4', zb', zdb', zkb1', zkb2', zkb3', zkb4', zc', zdc', zkc1', zkc2', zkc3', zkc4', zd', zdd', zkd1', zkd2', zkd3', zkd4', ze', zde', zke1', zke2', zke3', zke4', zf', zdf', zkf1', zkf2', zkf3', zkf4', hx9', hd9', -, -, -, -, -, -, -, -, -, -, -, -, -, -, -, -, -, -⟩ := hz9'); (try k_sweep); (try dsimp only); (try k_fold)))
  k_with "call ref" =>
    (k_here; (with_reducible show wpAny _ _ (call (Value.ref 276) _) _ _ _); k_dflt (refine' c_toldM ?z761zcB ?z761zcF ?z761zcX ?z761zcN ?z761zcT ?z761zcK ?z761zcD ?z761zcU ?z761zp0 ?z761zp1 ?_; (case z761zcB => k_asm); (case z761zcF => k_asm); (case z761zcX => k_asm); (case z761zcN => k_asm); (case z761zcT => k_asm); (case z761zcK => first | exact rfl | assumption); (case z761zcD => walk_at "c dp"); (case z761zcU => walk_at "c un"); (case z761zp0 => exact fun _ h9 => h9); (case z761zp1 => exact MatIs.mono (by with_reducible assumption) (by walk_at "c sub")); intro t' ta' ia' ja' tb' ib' jb' tc' ic' jc' td' id' jd' te' ie' je' tf' iff' jf' h' tk' F' N'; (try k_sweep); (try dsimp only); (try k_fold)))
  trivial

theorem sWay (B : Below A₀ base outer h₀) (F : Fr h₀ L s.heap m) (X : (Mine.hd0.heap_1 w.params).In h₀) (T : Top VW LS mean mg mb h₀) (hd : dp + 100 < recursionLimit) (hu : un + 1000 < cLine) {cp ct : Addr} {led : List (Addr × Obj)} (N : News h₀ L s.heap led) {fa fb fc fd wd hg ma mb mc md me mf ta tb tc td : Int} (hD : Draws fa fb fc fd wd hg ma mb mc md me mf ta tb tc td) {sh dsh stb str : Addr} {ks1 ks2 : Tok} (hsh : (sh, instObj 473 dsh) ∈ led) (hdsh : (dsh, shelfObj w stb str ks1 ks2) ∈ led) (m_shelf : m (PySem.Str.ofString "shelf") = some (.ref sh)) {hdA : Addr} (hHd : HeadIs w led hdA fa fb fc fd ma mb mc md me mf ta tb tc td) (m_head : m (PySem.Str.ofString "head") = some (.ref hdA)) {mx : Addr} {qa qb qc qd qe qf : Rat} (hMx : MatIs w led mx qa qb qc qd qe qf) (hAM : IsAM0 fa fb fc fd ma mb mc md me mf ta tb tc td qa qb qc qd qe qf) (m_m : m (PySem.Str.ofString "m") = some (.ref mx)) {way : PySem.Str} {tw : Tok} (m_way : m (PySem.Str.ofString "way") = some (.str way tw))
   (ret : ∀ h' tk', Fr h₀ L h' m → News h₀ L h' led → Q .next { s with heap := h', toks := tk' }) : wpAny (model PySem.Challenge.rw_qz0079_01.row.prog w) (ktrTop dp un gd cn lawScope L a₀ ccd [(PySem.Str.ofString "times", ct), (PySem.Str.ofString "pen", cp)] outer) (execs wayBody (envX cn lawScope L a₀ ccd [(PySem.Str.ofString "times", ct), (PySem.Str.ofString "pen", cp)])) Q (fun _ _ => False) s := by
  (have hz9' := hMx); (obtain ⟨zdx, zk1, zk2, zk3, zk4, zk5, zk6, za, zda, zka1, zka2, zka3, zka4, zb, zdb, zkb1, zkb2, zkb3, zkb4, zc, zdc, zkc1, zkc2, zkc3, zkc4, zd, zdd, zkd1, zkd2, zkd3, zkd4, ze, zde, zke1, zke2, zke3, zke4, zf, zdf, zkf1, zkf2, zkf3, zkf4, hx9, hd9, -, -, -, -, -, -, -, -, -, -, -, -, -, -, -, -, -, -⟩ := hz9')
  conv in wayBody => whnf
  conv in (occs := *) lawScope => whnf
  revert X; k_fill; intro X
  w_on
  (try k_fold)
  k_steps
  rename Fr h₀ L _ _ => kF
  rename News h₀ L _ _ => kN
  exact ret _ _ kF (cb_drop kN (by walk_at "c sub"))
end
end PartCW
section PartCC
section
variable {w : World} {mean : ExcName → Option Value} {mg mb : PySem.Str → Option Value} {dp un : Nat} {gd : Option (List Code)} {cn : PySem.Str} {cs : Scope} {a₀ : Addr} {ccd : Value} {cl : List (PySem.Str × Addr)} {outer : List Env}
  {A₀ : Around} {base h₀ : Heap} {L : Addr} {m : PySem.Str → Option Value} {s : Shared} {news : List (Addr × Obj)} {Q E : Value → Shared → Prop}
theorem c_pointE (B : Below A₀ base outer h₀) (F : Fr h₀ L s.heap m) (X : (Mine.hd0.heap_1 w.params).In h₀) (N : News h₀ L s.heap news) (T : Top VW LS mean mg mb h₀) (hk : cs.kind = .function) (hd : dp + 40 < recursionLimit) (hu : un + 400 < cLine) {out : List (Addr × Obj)} (hs : ∀ q ∈ out, q ∈ news) {z : Addr} {qa qb qc qd qe qf q1 q2 : Rat} (hM : MatIs w out z qa qb qc qd qe qf) {x y : Int} {tx ty : Tok} (bx : Bnd x 3) (by_ : Bnd y 3) (e1 : qa * (x : Rat) + qc * (y : Rat) + qe = q1) (e2 : qb * (x : Rat) + qd * (y : Rat) + qf = q2)
    (ret : ∀ t t1 t2 i1 j1 i2 j2 h' tk', Fr h₀ L h' m → News h₀ L h' ((t, ({ cls := .type "tuple", data := .seq #[.ref t1, .ref t2] } : Obj)) :: (t1, ({ cls := .type "tuple", data := .seq #[.int (dtop q1) i1, .int (dplc q1) j1] } : Obj)) :: (t2, ({ cls := .type "tuple", data := .seq #[.int (dtop q2) i2, .int (dplc q2) j2] } : Obj)) :: news) → Q (.ref t) { s with heap := h', toks := tk' }) : wpAny (model PySem.Challenge.rw_qz0079_01.row.prog w) (ktrTop dp un gd cn cs L a₀ ccd cl outer) (call (.ref 550) [.ref z, .int x tx, .int y ty]) Q E s := by
  subst e1 e2
  exact c_pointM B F X N T hk hd hu hs hM bx by_ ret
end
theorem lines_CC_1 : True := by
  k_with_none
  k_with "c mem" =>
    first | ((with_reducible refine' mem_here ?z762zh9); (case z762zh9 => exact rfl)) | ((with_reducible refine' mem_nth 1 ?z762zh9); (case z762zh9 => exact rfl)) | ((with_reducible refine' mem_nth 2 ?z762zh9); (case z762zh9 => exact rfl)) | ((with_reducible refine' mem_nth 3 ?z762zh9); (case z762zh9 => exact rfl)) | ((with_reducible refine' mem_nth 4 ?z762zh9); (case z762zh9 => exact rfl)) | ((with_reducible refine' mem_nth 5 ?z762zh9); (case z762zh9 => exact rfl)) | ((with_reducible refine' mem_nth 6 ?z762zh9); (case z762zh9 => exact rfl)) | ((with_reducible refine' mem_nth 7 ?z762zh9); (case z762zh9 => exact rfl)) | ((with_reducible refine' mem_nth 8 ?z762zh9); (case z762zh9 => exact rfl)) | ((with_reducible refine' mem_nth 9 ?z762zh9); (case z762zh9 => exact rfl)) | ((with_reducible refine' mem_skip ?_); walk_at "c mem") | (with_reducible exact List.mem_append_left _ (by with_reducible assumption)) | ktr_member | ((with_reducible refine' List.mem_cons_of_mem _ ?_); walk_at "c mem") | ((with_reducible refine' List.mem_append_right _ ?_); walk_at "c mem")
  k_with "c room" =>
    with_reducible first | assumption | exact room1 (by assumption) rfl | exact room2 (by assumption) rfl | exact room3 (by assumption) rfl | exact room4 (by assumption) rfl
  k_with "c le" =>
    with_reducible first | assumption | exact Nat.le_trans (by assumption) (by decide)
  k_with "c lt1" =>
    with_reducible first | assumption | exact cj0 | exact cj1 | exact cj2 | exact cj3 | exact cj4 | exact cj5 | exact cj6 | exact cj7 | exact cj8 | exact cj9 | exact cj10 | exact cj11 | exact cj12 | exact cj13 | exact cj14 | exact cj15 | exact cj16 | exact cj17 | exact cj18 | exact cj19 | exact cj20 | exact cj21 | exact cj22 | exact cj23 | exact And.right (by with_reducible assumption) | exact And.right (And.right (by with_reducible assumption)) | exact And.right (And.right (And.right (by with_reducible assumption))) | exact And.right (And.right (And.right (And.right (by with_reducible assumption))))
  k_with "c lt2" =>
    ((with_reducible refine' Nat.lt_trans ?z766za9 ?z766zb9); (case z766zb9 => with_reducible assumption); (case z766za9 => walk_at "c lt1"))
  k_with "c lt" =>
    first | walk_at "c lt1" | walk_at "c lt2"
  k_with "c up3" =>
    with_reducible first | exact abv3 (by assumption) | exact abv3_1 (by assumption) | exact abv3_2 (by assumption) | exact abv3_3 (by assumption) | exact abv3_4 (by assumption) | (refine' Abv3.tr ?z768za9 ?z768zb9; (case z768za9 => assumption); (case z768zb9 => walk_at "c up3"))
  k_with "c ne" =>
    first | with_reducible (first | assumption | exact And.left (by assumption) | exact Ne.symm (And.left (by assumption)) | exact And.left (And.right (by assumption)) | exact Ne.symm (And.left (And.right (by assumption))) | exact And.right (And.right (by assumption)) | exact Ne.symm (And.right (And.right (by assumption))) | exact neq_lt (by assumption) | exact neq_gt (by assumption) | exact nl0 | exact nr0 | exact nl1 | exact nr1 | exact nl2 | exact nr2 | exact nl3 | exact nr3 | exact nl4 | exact nr4 | exact nl5 | exact nr5 | exact nl6 | exact nr6 | exact nl7 | exact nr7 | exact nl8 | exact nr8 | exact nl9 | exact nr9 | exact nl10 | exact nr10 | exact nl11 | exact nr11 | exact nl12 | exact nr12 | exact nl13 | exact nr13 | exact nl14 | exact nr14 | exact nl15 | exact nr15 | exact nl16 | exact nr16 | exact nl17 | exact nr17 | exact nl18 | exact nr18 | exact nl19 | exact nr19 | exact nl20 | exact nr20 | exact nl21 | exact nr21 | exact nl22 | exact nr22 | exact nl23 | exact nr23) | ((with_reducible refine' neq_lt ?z769zz9); (case z769zz9 => walk_at "c lt2")) | ((with_reducible refine' neq_gt ?z769zz9); (case z769zz9 => walk_at "c lt2")) | ((try dsimp only); omega)
  k_with "c dp" =>
    ((try simp only [depth_under_make, depth_under_kw, depth_in1, depth_deeper, depth_caller]); (try dsimp only [ktrTop]); first | walk_at "c room" | omega | decide)
  k_with "c un" =>
    ((try simp only [units_make, units_in1, units_deeper, Around.mark_units, units_caller]); (try dsimp only [ktrTop]); first | walk_at "c room" | omega | decide)
  k_with "c in" =>
    first | assumption | exact List.mem_append_left _ (by walk_at "c in") | exact List.mem_append_right _ (by walk_at "c in") | exact List.mem_cons_of_mem _ (by walk_at "c in")
  k_with "c sub" =>
    first | (refine List.forall_mem_cons.mpr ⟨?z773za, ?z773zb⟩; (case z773za => walk_at "c mem"); (case z773zb => walk_at "c sub")) | (refine List.forall_mem_append.mpr ⟨?z773za, ?z773zb⟩; (case z773za => walk_at "c sub"); (case z773zb => walk_at "c sub")) | exact List.forall_mem_nil _ | (intro p9 h9; walk_at "c in")
  k_with "c out" =>
    first | ((with_reducible refine' LOut.skip ?z774za ?z774zb); (case z774za => first | exact Or.inl rfl | exact Or.inr (Or.inl rfl) | exact Or.inr (Or.inr (Or.inl rfl)) | exact Or.inr (Or.inr (Or.inr rfl))); (case z774zb => walk_at "c out")) | ((with_reducible refine' LOut.take ?z774za); (case z774za => walk_at "c out")) | ((with_reducible refine' LOut.app ?z774za); (case z774za => walk_at "c out")) | exact LOut.rest
  k_with "c up" =>
    first | (refine List.forall_mem_cons.mpr ⟨?z775za, ?z775zb⟩; (case z775za => ((try dsimp only); first | walk_at "c lt" | exact (by assumption : ∀ q ∈ _, q.1 < _) _ (by walk_at "c mem") | omega)); (case z775zb => walk_at "c up")) | (refine List.forall_mem_append.mpr ⟨?z775za, ?z775zb⟩; (case z775za => exact fresh_up (by assumption) (by walk_at "c mem")); (case z775zb => walk_at "c up")) | exact List.forall_mem_nil _ | assumption
  k_with "c pen" =>
    first | exact PenOut.done (by walk_at "c off") | (refine' PenOut.take ?z776za ?z776zb; (case z776za => k_ne); (case z776zb => walk_at "c pen"))
  k_with "c off" =>
    first | assumption | exact List.forall_mem_nil _ | (refine List.forall_mem_cons.mpr ⟨?z777za, ?z777zb⟩; (case z777za => k_ne); (case z777zb => walk_at "c off"))
  k_with "c bnd" =>
    with_reducible (first | assumption | exact Bnd.pow _ | (refine' Bnd.fdiv ?z778za; (case z778za => walk_at "c bnd")) | (exact Bnd.mul (by walk_at "c bnd") (by walk_at "c bnd")) | (exact Bnd.add1 (by walk_at "c bnd") (by walk_at "c bnd")) | (exact Bnd.sub1 (by walk_at "c bnd") (by walk_at "c bnd")) | (exact Bnd.add (by walk_at "c bnd") (by walk_at "c bnd")) | (exact Bnd.sub (by walk_at "c bnd") (by walk_at "c bnd")))
  k_with "c ar" =>
    first | assumption | decide | omega | (split <;> omega)
  k_with "c mul" =>
    exact mulOk_bnd (by walk_at "c bnd") (by walk_at "c bnd") (by walk_at "c ar") (by walk_at "c ar")
  k_with "binaryOp Pow int int" =>
    ((with_reducible refine pow_int_small ?z781zkb1 ?z781zkb2 ?z781zkb3 ?_); (case z781zkb1 => walk_at "c ar"); (case z781zkb2 => walk_at "c ar"); (case z781zkb3 => decide))
  k_with "call ref" =>
    (k_here; (with_reducible show wpAny _ _ (call (Prod.fst _) (_ ++ _)) _ _ _); dsimp only [List.nil_append, List.cons_append])
  k_with "subscriptTail" =>
    (k_here; (with_reducible show wpAny _ _ (subscriptTail _ _ (Value.ref _) (Value.int _ _)) _ _ _); k_dflt (first
    | (refine' item_tupleT ?z783zt ?z783za ?z783zb ?z783zc ?z783zd ?_; (case z783zt => exact News.isTup (by k_asm) (by k_mem)); (case z783za => decide); (case z783zb => decide); (case z783zc => exact rfl); (case z783zd => exact rfl); k_whole)
    | (refine' c_item ?z783zN ?z783zm ?z783za ?z783zb ?z783zc ?_ ?z783zz; (case z783zN => k_asm); (case z783zm => k_mem); (case z783za => decide); (case z783zb => decide); (case z783zc => exact rfl); (case z783zz => with_unfolding_all rfl); k_whole)))
  k_with "subscriptTail Name Constant ref int" =>
    (k_here; (with_reducible show wpAny _ _ (subscriptTail _ _ (Value.ref _) (Value.int _ _)) _ _ _); k_dflt (first
    | (refine' item_tupleT ?z784zt ?z784za ?z784zb ?z784zc ?z784zd ?_; (case z784zt => exact News.isTup (by k_asm) (by k_mem)); (case z784za => decide); (case z784zb => decide); (case z784zc => exact rfl); (case z784zd => exact rfl); k_whole)
    | (refine' c_item ?z784zN ?z784zm ?z784za ?z784zb ?z784zc ?_ ?z784zz; (case z784zN => k_asm); (case z784zm => k_mem); (case z784za => decide); (case z784zb => decide); (case z784zc => exact rfl); (case z784zz => with_unfolding_all rfl); k_whole)))
  trivial
section
variable {w : World} {mean : ExcName → Option Value} {mg mb : PySem.Str → Option Value} {dp un : Nat} {gd : Option (List Code)} {cn : PySem.Str} {cs : Scope} {a₀ : Addr} {ccd : Value} {cl : List (PySem.Str × Addr)} {outer : List Env}
  {A₀ : Around} {base h₀ : Heap} {L : Addr} {m : PySem.Str → Option Value} {s : Shared} {news : List (Addr × Obj)} {Q : Flow → Shared → Prop} {E : Value → Shared → Prop}
theorem lines_CC_2 : True := by
  k_with "c les" =>
    ((with_reducible refine' sub_of ?z785zhc9 ?z785zhr9); (case z785zhc9 => with_reducible assumption); (case z785zhr9 => walk_at "c out"))
  k_with "c wo" =>
    first | ((with_reducible refine' Wo.skip ?z786za); (case z786za => walk_at "c wo")) | ((with_reducible refine' Wo.take ?z786za); (case z786za => walk_at "c wo")) | exact Wo.rest
  k_with "eval Name" =>
    (k_here; k_dflt (refine' nameX_L ?z787zF ?z787zv ?_ ?z787za ?z787zb; (case z787zF => k_asm); (case z787za => exact rfl); (case z787zb => exact rfl); (case z787zv => first | exact rfl | assumption); k_whole))
  k_with "call ref" =>
    (k_here; (with_reducible show wpAny _ _ (call (Value.ref 550) [Value.ref _, Value.int _ _, Value.int _ _]) _ _ _); k_dflt (refine' c_pointE ?z788zcB ?z788zcF ?z788zcX ?z788zcN ?z788zcT ?z788zcK ?z788zcD ?z788zcU ?z788zp0 ?z788zp1 ?z788zp2 ?z788zp3 ?z788zp4 ?z788zp5 ?_; (case z788zcB => k_asm); (case z788zcF => k_asm); (case z788zcX => k_asm); (case z788zcN => k_asm); (case z788zcT => k_asm); (case z788zcK => first | exact rfl | assumption); (case z788zcD => walk_at "c dp"); (case z788zcU => walk_at "c un"); (case z788zp0 => exact fun _ h9 => h9); (case z788zp1 => exact MatIs.mono (by with_reducible assumption) (by walk_at "c sub")); (case z788zp2 => with_reducible assumption); (case z788zp3 => with_reducible assumption); (case z788zp4 => first | with_reducible assumption | exact rfl); (case z788zp5 => first | with_reducible assumption | exact rfl); intro t' t1' t2' i1' j1' i2' j2' h' tk' F' N'; (try k_sweep); (try dsimp only); (try k_fold)))
  trivial

theorem sCor (B : Below A₀ base outer h₀) (F : Fr h₀ L s.heap m) (X : (Mine.hd0.heap_1 w.params).In h₀) (T : Top VW LS mean mg mb h₀) (hd : dp + 100 < recursionLimit) (hu : un + 1000 < cLine) {cp ct : Addr} {oct : Obj} {led : List (Addr × Obj)} (N : News h₀ L s.heap led) {fa fb fc fd wd hg ma mb mc md me mf ta tb tc td : Int} (hD : Draws fa fb fc fd wd hg ma mb mc md me mf ta tb tc td) {mx : Addr} {qa qb qc qd qe qf : Rat} (hMx : MatIs w led mx qa qb qc qd qe qf) (hAM : IsAM0 fa fb fc fd ma mb mc md me mf ta tb tc td qa qb qc qd qe qf) (m_m : m (PySem.Str.ofString "m") = some (.ref mx)) {tm : Int} {ttm : Tok} (hctm : (ct, oct) ∈ led) (hct : oct.data = .cell (some (.int tm ttm))) (htm : tm = 2 ∨ tm = 4 ∨ tm = 5 ∨ tm = 10)
   {gx : Addr} {ra rb rc rd re rf : Rat} (hGx : MatIs w led gx ra rb rc rd re rf) (hGA : IsAM (fa * tm) (fb * tm) (fc * tm) (fd * tm) ma mb mc md me mf ta tb tc td ra rb rc rd re rf) (hGr : Great fa fb fc fd ma mb mc md me mf tm) (m_great : m (PySem.Str.ofString "great") = some (.ref gx)) {u v : Int} {tu tv : Tok} (hu3 : -13 ≤ u ∧ u ≤ 13) (hv3 : -13 ≤ v ∧ v ≤ 13) (m_corner_x : m (PySem.Str.ofString "corner_x") = some (.int u tu)) (m_corner_y : m (PySem.Str.ofString "corner_y") = some (.int v tv))
   (ret : ∀ h' tk', Fr h₀ L h' m → News h₀ L h' led → Q .next { s with heap := h', toks := tk' }) : wpAny (model PySem.Challenge.rw_qz0079_01.row.prog w) (ktrTop dp un gd cn lawScope L a₀ ccd [(PySem.Str.ofString "times", ct), (PySem.Str.ofString "pen", cp)] outer) (execs cornerBody (envX cn lawScope L a₀ ccd [(PySem.Str.ofString "times", ct), (PySem.Str.ofString "pen", cp)])) Q (fun _ _ => False) s := by
  obtain ⟨bu1, bu2, bt⟩ := bnd_times hu3 htm
  obtain ⟨bv1, bv2, _⟩ := bnd_times hv3 htm
  obtain ⟨g1, g2⟩ := am_great0 (by omega) hGr hAM hGA u v
  conv in cornerBody => whnf
  conv in (occs := *) lawScope => whnf
  revert X; k_fill; intro X
  w_on
  (try k_fold)
  k_steps
  rename Fr h₀ L _ _ => kF
  rename News h₀ L _ _ => kN
  exact ret _ _ kF (cb_drop kN (by walk_at "c sub"))
end
end PartCC
section PartCN
/-- the last of the law's three conditions -/
noncomputable def numTest : PySem.Expr := match (lawBody.drop 15).headD (Stmt.Pass default) with
  | .If (.BoolOp _ (_ :: _ :: c :: _) _) _ _ _ => c
  | _ => PySem.Expr.Name (PySem.Str.ofString "x") default
theorem lines_CN_1 : True := by
  k_with_none
  k_with "c mem" =>
    first | ((with_reducible refine' mem_here ?z789zh9); (case z789zh9 => exact rfl)) | ((with_reducible refine' mem_nth 1 ?z789zh9); (case z789zh9 => exact rfl)) | ((with_reducible refine' mem_nth 2 ?z789zh9); (case z789zh9 => exact rfl)) | ((with_reducible refine' mem_nth 3 ?z789zh9); (case z789zh9 => exact rfl)) | ((with_reducible refine' mem_nth 4 ?z789zh9); (case z789zh9 => exact rfl)) | ((with_reducible refine' mem_nth 5 ?z789zh9); (case z789zh9 => exact rfl)) | ((with_reducible refine' mem_nth 6 ?z789zh9); (case z789zh9 => exact rfl)) | ((with_reducible refine' mem_nth 7 ?z789zh9); (case z789zh9 => exact rfl)) | ((with_reducible refine' mem_nth 8 ?z789zh9); (case z789zh9 => exact rfl)) | ((with_reducible refine' mem_nth 9 ?z789zh9); (case z789zh9 => exact rfl)) | ((with_reducible refine' mem_skip ?_); walk_at "c mem") | (with_reducible exact List.mem_append_left _ (by with_reducible assumption)) | ktr_member | ((with_reducible refine' List.mem_cons_of_mem _ ?_); walk_at "c mem") | ((with_reducible refine' List.mem_append_right _ ?_); walk_at "c mem")
  k_with "c room" =>
    with_reducible first | assumption | exact room1 (by assumption) rfl | exact room2 (by assumption) rfl | exact room3 (by assumption) rfl | exact room4 (by assumption) rfl
  k_with "c le" =>
    with_reducible first | assumption | exact Nat.le_trans (by assumption) (by decide)
  k_with "c lt1" =>
    with_reducible first | assumption | exact cj0 | exact cj1 | exact cj2 | exact cj3 | exact cj4 | exact cj5 | exact cj6 | exact cj7 | exact cj8 | exact cj9 | exact cj10 | exact cj11 | exact cj12 | exact cj13 | exact cj14 | exact cj15 | exact cj16 | exact cj17 | exact cj18 | exact cj19 | exact cj20 | exact cj21 | exact cj22 | exact cj23 | exact And.right (by with_reducible assumption) | exact And.right (And.right (by with_reducible assumption)) | exact And.right (And.right (And.right (by with_reducible assumption))) | exact And.right (And.right (And.right (And.right (by with_reducible assumption))))
  k_with "c lt2" =>
    ((with_reducible refine' Nat.lt_trans ?z793za9 ?z793zb9); (case z793zb9 => with_reducible assumption); (case z793za9 => walk_at "c lt1"))
  k_with "c lt" =>
    first | walk_at "c lt1" | walk_at "c lt2"
  k_with "c up3" =>
    with_reducible first | exact abv3 (by assumption) | exact abv3_1 (by assumption) | exact abv3_2 (by assumption) | exact abv3_3 (by assumption) | exact abv3_4 (by assumption) | (refine' Abv3.tr ?z795za9 ?z795zb9; (case z795za9 => assumption); (case z795zb9 => walk_at "c up3"))
  k_with "c ne" =>
    first | with_reducible (first | assumption | exact And.left (by assumption) | exact Ne.symm (And.left (by assumption)) | exact And.left (And.right (by assumption)) | exact Ne.symm (And.left (And.right (by assumption))) | exact And.right (And.right (by assumption)) | exact Ne.symm (And.right (And.right (by assumption))) | exact neq_lt (by assumption) | exact neq_gt (by assumption) | exact nl0 | exact nr0 | exact nl1 | exact nr1 | exact nl2 | exact nr2 | exact nl3 | exact nr3 | exact nl4 | exact nr4 | exact nl5 | exact nr5 | exact nl6 | exact nr6 | exact nl7 | exact nr7 | exact nl8 | exact nr8 | exact nl9 | exact nr9 | exact nl10 | exact nr10 | exact nl11 | exact nr11 | exact nl12 | exact nr12 | exact nl13 | exact nr13 | exact nl14 | exact nr14 | exact nl15 | exact nr15 | exact nl16 | exact nr16 | exact nl17 | exact nr17 | exact nl18 | exact nr18 | exact nl19 | exact nr19 | exact nl20 | exact nr20 | exact nl21 | exact nr21 | exact nl22 | exact nr22 | exact nl23 | exact nr23) | ((with_reducible refine' neq_lt ?z796zz9); (case z796zz9 => walk_at "c lt2")) | ((with_reducible refine' neq_gt ?z796zz9); (case z796zz9 => walk_at "c lt2")) | ((try dsimp only); omega)
  k_with "c dp" =>
    ((try simp only [depth_under_make, depth_under_kw, depth_in1, depth_deeper, depth_caller]); (try dsimp only [ktrTop]); first | walk_at "c room" | omega | decide)
  k_with "c un" =>
    ((try simp only [units_make, units_in1, units_deeper, Around.mark_units, units_caller]); (try dsimp only [ktrTop]); first | walk_at "c room" | omega | decide)
  k_with "c in" =>
    first | assumption | exact List.mem_append_left _ (by walk_at "c in") | exact List.mem_append_right _ (by walk_at "c in") | exact List.mem_cons_of_mem _ (by walk_at "c in")
  k_with "c sub" =>
    first | (refine List.forall_mem_cons.mpr ⟨?z800za, ?z800zb⟩; (case z800za => walk_at "c mem"); (case z800zb => walk_at "c sub")) | (refine List.forall_mem_append.mpr ⟨?z800za, ?z800zb⟩; (case z800za => walk_at "c sub"); (case z800zb => walk_at "c sub")) | exact List.forall_mem_nil _ | (intro p9 h9; walk_at "c in")
  k_with "c out" =>
    first | ((with_reducible refine' LOut.skip ?z801za ?z801zb); (case z801za => first | exact Or.inl rfl | exact Or.inr (Or.inl rfl) | exact Or.inr (Or.inr (Or.inl rfl)) | exact Or.inr (Or.inr (Or.inr rfl))); (case z801zb => walk_at "c out")) | ((with_reducible refine' LOut.take ?z801za); (case z801za => walk_at "c out")) | ((with_reducible refine' LOut.app ?z801za); (case z801za => walk_at "c out")) | exact LOut.rest
  k_with "c up" =>
    first | (refine List.forall_mem_cons.mpr ⟨?z802za, ?z802zb⟩; (case z802za => ((try dsimp only); first | walk_at "c lt" | exact (by assumption : ∀ q ∈ _, q.1 < _) _ (by walk_at "c mem") | omega)); (case z802zb => walk_at "c up")) | (refine List.forall_mem_append.mpr ⟨?z802za, ?z802zb⟩; (case z802za => exact fresh_up (by assumption) (by walk_at "c mem")); (case z802zb => walk_at "c up")) | exact List.forall_mem_nil _ | assumption
  k_with "c pen" =>
    first | exact PenOut.done (by walk_at "c off") | (refine' PenOut.take ?z803za ?z803zb; (case z803za => k_ne); (case z803zb => walk_at "c pen"))
  k_with "c off" =>
    first | assumption | exact List.forall_mem_nil _ | (refine List.forall_mem_cons.mpr ⟨?z804za, ?z804zb⟩; (case z804za => k_ne); (case z804zb => walk_at "c off"))
  k_with "c bnd" =>
    with_reducible (first | assumption | exact Bnd.pow _ | (refine' Bnd.fdiv ?z805za; (case z805za => walk_at "c bnd")) | (exact Bnd.mul (by walk_at "c bnd") (by walk_at "c bnd")) | (exact Bnd.add1 (by walk_at "c bnd") (by walk_at "c bnd")) | (exact Bnd.sub1 (by walk_at "c bnd") (by walk_at "c bnd")) | (exact Bnd.add (by walk_at "c bnd") (by walk_at "c bnd")) | (exact Bnd.sub (by walk_at "c bnd") (by walk_at "c bnd")))
  k_with "c ar" =>
    first | assumption | decide | omega | (split <;> omega)
  k_with "c mul" =>
    exact mulOk_bnd (by walk_at "c bnd") (by walk_at "c bnd") (by walk_at "c ar") (by walk_at "c ar")
  k_with "binaryOp Pow int int" =>
    ((with_reducible refine pow_int_small ?z808zkb1 ?z808zkb2 ?z808zkb3 ?_); (case z808zkb1 => walk_at "c ar"); (case z808zkb2 => walk_at "c ar"); (case z808zkb3 => decide))
  k_with "call ref" =>
    (k_here; (with_reducible show wpAny _ _ (call (Prod.fst _) (_ ++ _)) _ _ _); dsimp only [List.nil_append, List.cons_append])
  k_with "subscriptTail" =>
    (k_here; (with_reducible show wpAny _ _ (subscriptTail _ _ (Value.ref _) (Value.int _ _)) _ _ _); k_dflt (first
    | (refine' item_tupleT ?z810zt ?z810za ?z810zb ?z810zc ?z810zd ?_; (case z810zt => exact News.isTup (by k_asm) (by k_mem)); (case z810za => decide); (case z810zb => decide); (case z810zc => exact rfl); (case z810zd => exact rfl); k_whole)
    | (refine' c_item ?z810zN ?z810zm ?z810za ?z810zb ?z810zc ?_ ?z810zz; (case z810zN => k_asm); (case z810zm => k_mem); (case z810za => decide); (case z810zb => decide); (case z810zc => exact rfl); (case z810zz => with_unfolding_all rfl); k_whole)))
  k_with "subscriptTail Name Constant ref int" =>
    (k_here; (with_reducible show wpAny _ _ (subscriptTail _ _ (Value.ref _) (Value.int _ _)) _ _ _); k_dflt (first
    | (refine' item_tupleT ?z811zt ?z811za ?z811zb ?z811zc ?z811zd ?_; (case z811zt => exact News.isTup (by k_asm) (by k_mem)); (case z811za => decide); (case z811zb => decide); (case z811zc => exact rfl); (case z811zd => exact rfl); k_whole)
    | (refine' c_item ?z811zN ?z811zm ?z811za ?z811zb ?z811zc ?_ ?z811zz; (case z811zN => k_asm); (case z811zm => k_mem); (case z811za => decide); (case z811zb => decide); (case z811zc => exact rfl); (case z811zz => with_unfolding_all rfl); k_whole)))
  trivial
section
variable {w : World} {mean : ExcName → Option Value} {mg mb : PySem.Str → Option Value} {dp un : Nat} {gd : Option (List Code)} {cn : PySem.Str} {cs : Scope} {a₀ : Addr} {ccd : Value} {cl : List (PySem.Str × Addr)} {outer : List Env}
  {A₀ : Around} {base h₀ : Heap} {L : Addr} {m : PySem.Str → Option Value} {s : Shared} {news : List (Addr × Obj)} {Q : Flow → Shared → Prop} {E : Value → Shared → Prop}
theorem lines_CN_2 : True := by
  k_with "c les" =>
    ((with_reducible refine' sub_of ?z812zhc9 ?z812zhr9); (case z812zhc9 => with_reducible assumption); (case z812zhr9 => walk_at "c out"))
  k_with "c wo" =>
    first | ((with_reducible refine' Wo.skip ?z813za); (case z813za => walk_at "c wo")) | ((with_reducible refine' Wo.take ?z813za); (case z813za => walk_at "c wo")) | exact Wo.rest
  k_with "eval Name" =>
    (k_here; k_dflt (refine' nameX_L ?z814zF ?z814zv ?_ ?z814za ?z814zb; (case z814zF => k_asm); (case z814za => exact rfl); (case z814zb => exact rfl); (case z814zv => first | exact rfl | assumption); k_whole))
  k_with "subscriptTail Name Constant ref int" =>
    (k_here; (with_reducible show wpAny _ _ (subscriptTail _ _ (Value.ref _) (Value.int _ _)) _ _ _); k_dflt (refine' c_item ?z815zN ?z815zm ?z815za ?z815zb ?z815zc ?_ ?z815zz; (case z815zN => k_asm); (case z815zm => k_mem); (case z815za => decide); (case z815zb => decide); (case z815zc => exact rfl); (case z815zz => with_unfolding_all rfl); k_whole))
  k_with "c zero" =>
    first | exact ⟨rfl, rfl⟩ | exact zero2 (by assumption) | (constructor <;> omega)
  trivial

theorem c_nums (B : Below A₀ base outer h₀) (F : Fr h₀ L s.heap m) (X : (Mine.hd0.heap_1 w.params).In h₀) (T : Top VW LS mean mg mb h₀) (hd : dp + 100 < recursionLimit) (hu : un + 1000 < cLine) {ct cp : Addr} {led : List (Addr × Obj)} (N : News h₀ L s.heap led) {ma mb mc md me mf : Int} {vn : Value} (hvn : NumIs led vn ma mb mc md me mf) (m_numbers : m (PySem.Str.ofString "numbers") = some (vn)) {whole : Sem Value} {Qb : Bool → Shared → Prop}
   (rt : me = 0 ∧ mf = 0 → ∀ h' tk', Fr h₀ L h' m → News h₀ L h' led → Qb true { s with heap := h', toks := tk' })
   (rf : ∀ h' tk', Fr h₀ L h' m → News h₀ L h' led → Qb false { s with heap := h', toks := tk' }) :
   wpAny (model PySem.Challenge.rw_qz0079_01.row.prog w) (ktrTop dp un gd cn lawScope L a₀ ccd [(PySem.Str.ofString "times", ct), (PySem.Str.ofString "pen", cp)] outer) (isTrue numTest (envX cn lawScope L a₀ ccd [(PySem.Str.ofString "times", ct), (PySem.Str.ofString "pen", cp)]) whole) Qb (fun _ _ => False) s := by
  cases hvn
  all_goals (conv in numTest => whnf)
  all_goals (conv in (occs := *) lawScope => whnf)
  all_goals (
    revert X; k_fill; intro X
    w_on
    (try k_fold))
  k_steps
  all_goals (
    rename Fr h₀ L _ _ => kF
    rename News h₀ L _ _ => kN
    first
      | exact rt ⟨rfl, rfl⟩ _ _ kF kN
      | exact rt (zero2 (by assumption)) _ _ kF (cb_drop kN (by walk_at "c sub"))
      | exact rf _ _ kF (cb_drop kN (by walk_at "c sub")))
end
end PartCN
section PartCJ
theorem lines_CJ_1 : True := by
  k_with_none
  k_with "c mem" =>
    first | ((with_reducible refine' mem_here ?z817zh9); (case z817zh9 => exact rfl)) | ((with_reducible refine' mem_nth 1 ?z817zh9); (case z817zh9 => exact rfl)) | ((with_reducible refine' mem_nth 2 ?z817zh9); (case z817zh9 => exact rfl)) | ((with_reducible refine' mem_nth 3 ?z817zh9); (case z817zh9 => exact rfl)) | ((with_reducible refine' mem_nth 4 ?z817zh9); (case z817zh9 => exact rfl)) | ((with_reducible refine' mem_nth 5 ?z817zh9); (case z817zh9 => exact rfl)) | ((with_reducible refine' mem_nth 6 ?z817zh9); (case z817zh9 => exact rfl)) | ((with_reducible refine' mem_nth 7 ?z817zh9); (case z817zh9 => exact rfl)) | ((with_reducible refine' mem_nth 8 ?z817zh9); (case z817zh9 => exact rfl)) | ((with_reducible refine' mem_nth 9 ?z817zh9); (case z817zh9 => exact rfl)) | ((with_reducible refine' mem_skip ?_); walk_at "c mem") | (with_reducible exact List.mem_append_left _ (by with_reducible assumption)) | ktr_member | ((with_reducible refine' List.mem_cons_of_mem _ ?_); walk_at "c mem") | ((with_reducible refine' List.mem_append_right _ ?_); walk_at "c mem")
  k_with "c room" =>
    with_reducible first | assumption | exact room1 (by assumption) rfl | exact room2 (by assumption) rfl | exact room3 (by assumption) rfl | exact room4 (by assumption) rfl
  k_with "c le" =>
    with_reducible first | assumption | exact Nat.le_trans (by assumption) (by decide)
  k_with "c lt1" =>
    with_reducible first | assumption | exact cj0 | exact cj1 | exact cj2 | exact cj3 | exact cj4 | exact cj5 | exact cj6 | exact cj7 | exact cj8 | exact cj9 | exact cj10 | exact cj11 | exact cj12 | exact cj13 | exact cj14 | exact cj15 | exact cj16 | exact cj17 | exact cj18 | exact cj19 | exact cj20 | exact cj21 | exact cj22 | exact cj23 | exact And.right (by with_reducible assumption) | exact And.right (And.right (by with_reducible assumption)) | exact And.right (And.right (And.right (by with_reducible assumption))) | exact And.right (And.right (And.right (And.right (by with_reducible assumption))))
  k_with "c lt2" =>
    ((with_reducible refine' Nat.lt_trans ?z821za9 ?z821zb9); (case z821zb9 => with_reducible assumption); (case z821za9 => walk_at "c lt1"))
  k_with "c lt" =>
    first | walk_at "c lt1" | walk_at "c lt2"
  k_with "c up3" =>
    with_reducible first | exact abv3 (by assumption) | exact abv3_1 (by assumption) | exact abv3_2 (by assumption) | exact abv3_3 (by assumption) | exact abv3_4 (by assumption) | (refine' Abv3.tr ?z823za9 ?z823zb9; (case z823za9 => assumption); (case z823zb9 => walk_at "c up3"))
  k_with "c ne" =>
    first | with_reducible (first | assumption | exact And.left (by assumption) | exact Ne.symm (And.left (by assumption)) | exact And.left (And.right (by assumption)) | exact Ne.symm (And.left (And.right (by assumption))) | exact And.right (And.right (by assumption)) | exact Ne.symm (And.right (And.right (by assumption))) | exact neq_lt (by assumption) | exact neq_gt (by assumption) | exact nl0 | exact nr0 | exact nl1 | exact nr1 | exact nl2 | exact nr2 | exact nl3 | exact nr3 | exact nl4 | exact nr4 | exact nl5 | exact nr5 | exact nl6 | exact nr6 | exact nl7 | exact nr7 | exact nl8 | exact nr8 | exact nl9 | exact nr9 | exact nl10 | exact nr10 | exact nl11 | exact nr11 | exact nl12 | exact nr12 | exact nl13 | exact nr13 | exact nl14 | exact nr14 | exact nl15 | exact nr15 | exact nl16 | exact nr16 | exact nl17 | exact nr17 | exact nl18 | exact nr18 | exact nl19 | exact nr19 | exact nl20 | exact nr20 | exact nl21 | exact nr21 | exact nl22 | exact nr22 | exact nl23 | exact nr23) | ((with_reducible refine' neq_lt ?z824zz9); (case z824zz9 => walk_at "c lt2")) | ((with_reducible refine' neq_gt ?z824zz9); (case z824zz9 => walk_at "c lt2")) | ((try dsimp only); omega)
  k_with "c dp" =>
    ((try simp only [depth_under_make, depth_under_kw, depth_in1, depth_deeper, depth_caller]); (try dsimp only [ktrTop]); first | walk_at "c room" | omega | decide)
  k_with "c un" =>
    ((try simp only [units_make, units_in1, units_deeper, Around.mark_units, units_caller]); (try dsimp only [ktrTop]); first | walk_at "c room" | omega | decide)
  k_with "c in" =>
    first | assumption | exact List.mem_append_left _ (by walk_at "c in") | exact List.mem_append_right _ (by walk_at "c in") | exact List.mem_cons_of_mem _ (by walk_at "c in")
  k_with "c sub" =>
    first | (refine List.forall_mem_cons.mpr ⟨?z828za, ?z828zb⟩; (case z828za => walk_at "c mem"); (case z828zb => walk_at "c sub")) | (refine List.forall_mem_append.mpr ⟨?z828za, ?z828zb⟩; (case z828za => walk_at "c sub"); (case z828zb => walk_at "c sub")) | exact List.forall_mem_nil _ | (intro p9 h9; walk_at "c in")
  k_with "c out" =>
    first | ((with_reducible refine' LOut.skip ?z829za ?z829zb); (case z829za => first | exact Or.inl rfl | exact Or.inr (Or.inl rfl) | exact Or.inr (Or.inr (Or.inl rfl)) | exact Or.inr (Or.inr (Or.inr rfl))); (case z829zb => walk_at "c out")) | ((with_reducible refine' LOut.take ?z829za); (case z829za => walk_at "c out")) | ((with_reducible refine' LOut.app ?z829za); (case z829za => walk_at "c out")) | exact LOut.rest
  k_with "c up" =>
    first | (refine List.forall_mem_cons.mpr ⟨?z830za, ?z830zb⟩; (case z830za => ((try dsimp only); first | walk_at "c lt" | exact (by assumption : ∀ q ∈ _, q.1 < _) _ (by walk_at "c mem") | omega)); (case z830zb => walk_at "c up")) | (refine List.forall_mem_append.mpr ⟨?z830za, ?z830zb⟩; (case z830za => exact fresh_up (by assumption) (by walk_at "c mem")); (case z830zb => walk_at "c up")) | exact List.forall_mem_nil _ | assumption
  k_with "c pen" =>
    first | exact PenOut.done (by walk_at "c off") | (refine' PenOut.take ?z831za ?z831zb; (case z831za => k_ne); (case z831zb => walk_at "c pen"))
  k_with "c off" =>
    first | assumption | exact List.forall_mem_nil _ | (refine List.forall_mem_cons.mpr ⟨?z832za, ?z832zb⟩; (case z832za => k_ne); (case z832zb => walk_at "c off"))
  k_with "c bnd" =>
    with_reducible (first | assumption | exact Bnd.pow _ | (refine' Bnd.fdiv ?z833za; (case z833za => walk_at "c bnd")) | (exact Bnd.mul (by walk_at "c bnd") (by walk_at "c bnd")) | (exact Bnd.add1 (by walk_at "c bnd") (by walk_at "c bnd")) | (exact Bnd.sub1 (by walk_at "c bnd") (by walk_at "c bnd")) | (exact Bnd.add (by walk_at "c bnd") (by walk_at "c bnd")) | (exact Bnd.sub (by walk_at "c bnd") (by walk_at "c bnd")))
  k_with "c ar" =>
    first | assumption | decide | omega | (split <;> omega)
  k_with "c mul" =>
    exact mulOk_bnd (by walk_at "c bnd") (by walk_at "c bnd") (by walk_at "c ar") (by walk_at "c ar")
  k_with "binaryOp Pow int int" =>
    ((with_reducible refine pow_int_small ?z836zkb1 ?z836zkb2 ?z836zkb3 ?_); (case z836zkb1 => walk_at "c ar"); (case z836zkb2 => walk_at "c ar"); (case z836zkb3 => decide))
  k_with "call ref" =>
    (k_here; (with_reducible show wpAny _ _ (call (Prod.fst _) (_ ++ _)) _ _ _); dsimp only [List.nil_append, List.cons_append])
  k_with "subscriptTail" =>
    (k_here; (with_reducible show wpAny _ _ (subscriptTail _ _ (Value.ref _) (Value.int _ _)) _ _ _); k_dflt (first
    | (refine' item_tupleT ?z838zt ?z838za ?z838zb ?z838zc ?z838zd ?_; (case z838zt => exact News.isTup (by k_asm) (by k_mem)); (case z838za => decide); (case z838zb => decide); (case z838zc => exact rfl); (case z838zd => exact rfl); k_whole)
    | (refine' c_item ?z838zN ?z838zm ?z838za ?z838zb ?z838zc ?_ ?z838zz; (case z838zN => k_asm); (case z838zm => k_mem); (case z838za => decide); (case z838zb => decide); (case z838zc => exact rfl); (case z838zz => with_unfolding_all rfl); k_whole)))
  k_with "subscriptTail Name Constant ref int" =>
    (k_here; (with_reducible show wpAny _ _ (subscriptTail _ _ (Value.ref _) (Value.int _ _)) _ _ _); k_dflt (first
    | (refine' item_tupleT ?z839zt ?z839za ?z839zb ?z839zc ?z839zd ?_; (case z839zt => exact News.isTup (by k_asm) (by k_mem)); (case z839za => decide); (case z839zb => decide); (case z839zc => exact rfl); (case z839zd => exact rfl); k_whole)
    | (refine' c_item ?z839zN ?z839zm ?z839za ?z839zb ?z839zc ?_ ?z839zz; (case z839zN => k_asm); (case z839zm => k_mem); (case z839za => decide); (case z839zb => decide); (case z839zc => exact rfl); (case z839zz => with_unfolding_all rfl); k_whole)))
  trivial
section
variable {w : World} {mean : ExcName → Option Value} {mg mb : PySem.Str → Option Value} {dp un : Nat} {gd : Option (List Code)} {cn : PySem.Str} {cs : Scope} {a₀ : Addr} {ccd : Value} {cl : List (PySem.Str × Addr)} {outer : List Env}
  {A₀ : Around} {base h₀ : Heap} {L : Addr} {m : PySem.Str → Option Value} {s : Shared} {news : List (Addr × Obj)} {Q : Flow → Shared → Prop} {E : Value → Shared → Prop}
theorem lines_CJ_2 : True := by
  k_with "c les" =>
    ((with_reducible refine' sub_of ?z840zhc9 ?z840zhr9); (case z840zhc9 => with_reducible assumption); (case z840zhr9 => walk_at "c out"))
  k_with "c wo" =>
    first | ((with_reducible refine' Wo.skip ?z841za); (case z841za => walk_at "c wo")) | ((with_reducible refine' Wo.take ?z841za); (case z841za => walk_at "c wo")) | exact Wo.rest
  k_with "eval Name" =>
    (k_here; k_dflt (refine' nameX_L ?z842zF ?z842zv ?_ ?z842za ?z842zb; (case z842zF => k_asm); (case z842za => exact rfl); (case z842zb => exact rfl); (case z842zv => first | exact rfl | assumption); k_whole))
  k_with "c kept" =>
    first | exact Kept.done (by with_reducible assumption) | (refine' Kept.skipI ?z843zk9; (case z843zk9 => walk_at "c kept")) | (refine' Kept.skipC ?z843zk9; (case z843zk9 => walk_at "c kept")) | (refine' Kept.skipD ?z843zk9; (case z843zk9 => walk_at "c kept")) | ((with_reducible refine' Kept.takeF ?z843zu9 ?z843zk9); (case z843zu9 => with_reducible assumption); (case z843zk9 => walk_at "c kept")) | ((with_reducible refine' Kept.take3 ?z843zu9 ?z843zk9); (case z843zu9 => walk_at "c up3"); (case z843zk9 => walk_at "c kept")) | (refine' Kept.take ?z843za ?z843zb ?z843zc ?z843zk9; (case z843za => first | walk_at "c ne" | omega); (case z843zb => first | walk_at "c ne" | omega); (case z843zc => first | walk_at "c ne" | omega); (case z843zk9 => walk_at "c kept"))
  k_with "CompEnd" =>
    (k_dflt (refine' kept_end ?z844zF ?z844zN ?z844zk ?z844zi ?z844zc ?z844zd ?z844zs ?_; (case z844zF => k_asm); (case z844zN => k_asm); (case z844zk => with_reducible walk_at "c kept"); (case z844zi => k_mem); (case z844zc => k_mem); (case z844zd => k_mem); (case z844zs => first | exact True.intro | (refine' src_list ?z844zm1; (case z844zm1 => k_mem)) | exact Or.inl (by assumption))))
  k_with "CompRest" =>
    (with_unfolding_all first
    | (refine LCg.CompRest.succ ?_; intro v' I' oI' C' oC' D' m' h' tk' E' hv' hC' hx' F' N' off' ne'; (first | lcg_open hv' | (obtain ⟨t9', hv9'⟩ := hv'; subst hv9')))
    | refine LCg.CompRest.zero ?_)
  k_with "FinE" =>
    ((unfold LCg.FinE); intro D' h' tk' F' N' o1'; clear o1'; (try simp only [List.nil_append, List.cons_append] at N'); (try dsimp only))
  k_with "CompRestP" =>
    (with_unfolding_all first
    | (refine LCp.CompRestP.succ ?_; intro v' hv'; lcg_open hv'; refine ⟨_, _, _, _, _, rfl, by k_mem, rfl, rfl, ?_⟩; intro I' oI' C' oC' D' m' h' tk' E' hC' hx' hy' F' N' off' ne')
    | refine LCp.CompRestP.zero ?_)
  k_with "FinA" =>
    ((unfold LCg.FinA); intro D' h' tk' F' N' o1'; clear o1'; (try simp only [List.nil_append, List.cons_append] at N'); (try dsimp only))
  k_with "CompSrc" =>
    (k_here; k_dflt (refine LCg.CompSrc.ledger (by rfl) (by k_asm) (by k_asm) (by k_mem) (by first | size_fits | exact Nat.le_of_ble_eq_true rfl) ?_; intro g'; lcg_lit))
  k_with "exec Assign cons ListComp" =>
    (k_here; lcg_look; k_dflt (refine LCg.Assign_ListComp_U (F₀ := by k_asm) (by rfl) (by with_unfolding_all rfl) (by rfl) (by decide) (by rfl) (by decide) (by rfl) (by rfl) (by rfl) ?_); k_dflt lcg_toSrc)
  k_with "subscriptTail Name Constant ref int" =>
    (k_here; (with_reducible show wpAny _ _ (subscriptTail _ _ (Value.ref _) (Value.int _ _)) _ _ _); k_dflt (refine' c_item ?z851zN ?z851zm ?z851za ?z851zb ?z851zc ?_ ?z851zz; (case z851zN => k_asm); (case z851zm => k_mem); (case z851za => decide); (case z851zb => decide); (case z851zc => exact rfl); (case z851zz => with_unfolding_all rfl); k_whole))
  k_with "isTrue BoolOp" =>
    (k_here; (with_reducible show wpAny _ _ (isTrue (PySem.Expr.BoolOp PySem.BoolOp.Or _ _) _ _) _ _ _); k_dflt (refine' c_nums ?z852zB ?z852zF ?z852zX ?z852zT ?z852zcd ?z852zcu ?z852zN ?z852zh ?z852zmn ?z852zrt ?z852zrf; (case z852zB => k_asm); (case z852zF => k_asm); (case z852zX => k_asm); (case z852zT => k_asm); (case z852zcd => assumption); (case z852zcu => assumption); (case z852zN => k_asm); (case z852zmn => first | exact rfl | assumption); (case z852zh => exact NumIs.mono (by with_reducible assumption) (by walk_at "c sub"))); (case' z852zrt => (intro hz' h' tk' F' N'; (try k_sweep); (try dsimp only); (try k_fold))); (case' z852zrf => (intro h' tk' F' N'; (try k_sweep); (try dsimp only); (try k_fold))))
  k_with "exec For Name Tuple cons nil" =>
    (k_here; (rename Fr _ _ _ _ => lF'); (with_unfolding_all refine' For_turns lF' ?_; k_whole))
  k_with "exec For Tuple Tuple cons nil" =>
    (k_here; (rename Fr _ _ _ _ => lF'); (with_unfolding_all refine' For_turns lF' ?_; k_whole))
  k_with "pyIter ref" =>
    (k_here; (with_reducible show wpAny _ _ (pyIter (Value.ref _)) (fun it s₂ => TurnsAt _ _ _ _ _ _ _ _ _ it s₂) _ _); k_dflt (refine' c_iterT ?z855zhh ?z855zF ?z855zN ?z855zm ?_; (case z855zhh => exact rfl); (case z855zF => k_asm); (case z855zN => k_asm); (case z855zm => k_mem); intro I' lI' tag'))
  k_with "UnrEndW" =>
    (k_dflt (refine' unrw_end ?z856zt ?z856zl ?z856zk ?z856zF ?z856zN ?z856zi ?z856zs ?_; (case z856zt => assumption); (case z856zF => k_asm); (case z856zN => k_asm); (case z856zl => assumption); (case z856zk => k_mem); (case z856zi => k_mem); (case z856zs => walk_at "c sub")))
  k_with "execs cons Return nil" =>
    (k_here; k_dflt (refine' sK ?z857zB ?z857zF ?z857zX ?z857zT ?z857zcd ?z857zcu ?z857zN ?z857zp0 ?z857zp1 ?z857zp2 ?z857zp3 ?z857zret; (case z857zB => k_asm); (case z857zF => k_asm); (case z857zX => k_asm); (case z857zT => k_asm); (case z857zcd => assumption); (case z857zcu => assumption); (case z857zN => k_asm); (case z857zp2 => first | exact rfl | assumption); (case z857zp3 => first | exact rfl | assumption); (case z857zp0 => k_mem); (case z857zp1 => k_mem); (case z857zret => assumption)))
  k_with "execs cons If nil" =>
    (k_here; k_dflt (refine' sCor ?z858zB ?z858zF ?z858zX ?z858zT ?z858zcd ?z858zcu ?z858zN ?z858zp0 ?z858zp1 ?z858zp2 ?z858zp3 ?z858zp4 ?z858zp5 ?z858zp6 ?z858zp7 ?z858zp8 ?z858zp9 ?z858zq0 ?z858zq1 ?z858zq2 ?z858zq3 ?z858zq4 ?_; (case z858zB => k_asm); (case z858zF => k_asm); (case z858zX => k_asm); (case z858zT => k_asm); (case z858zcd => assumption); (case z858zcu => assumption); (case z858zN => k_asm); (case z858zp3 => first | exact rfl | assumption); (case z858zq0 => first | exact rfl | assumption); (case z858zq3 => first | exact rfl | assumption); (case z858zq4 => first | exact rfl | assumption); (case z858zp0 => assumption); (case z858zp4 => k_mem); (case z858zp5 => assumption); (case z858zp6 => assumption); (case z858zp1 => exact MatIs.mono (by with_reducible assumption) (by walk_at "c sub")); (case z858zp2 => assumption); (case z858zp7 => exact MatIs.mono (by with_reducible assumption) (by walk_at "c sub")); (case z858zp8 => assumption); (case z858zp9 => assumption); (case z858zq1 => first | assumption | (constructor <;> decide)); (case z858zq2 => first | assumption | (constructor <;> decide))); intro h' tk' F' N'; (try k_sweep))
  k_with "c zero" =>
    first | with_reducible assumption | exact ⟨rfl, rfl⟩ | exact zero2 (by assumption) | (constructor <;> omega)
  k_with "c mul" =>
    exact IntMulOk.of_left (intBits_le_iff.mpr (by omega))
  k_with "c all" =>
    walk_at "c off"
  k_with "call ref" =>
    (k_here; (with_reducible show wpAny _ _ (call (Value.ref 529) [Value.ref _, Value.ref _]) _ _ _); k_dflt (refine' c_pick ?z862zcB ?z862zcF ?z862zcX ?z862zcN ?z862zcT ?z862zcK ?z862zcD ?z862zcU ?z862zp0 ?z862zp1 ?z862zp2 ?z862zp3 ?z862zp4 ?z862zp5 ?z862zp6 ?z862zp7 ?z862zp8 ?_; (case z862zcB => k_asm); (case z862zcF => k_asm); (case z862zcX => k_asm); (case z862zcN => k_asm); (case z862zcT => k_asm); (case z862zcK => first | exact rfl | assumption); (case z862zcD => walk_at "c dp"); (case z862zcU => walk_at "c un"); (case z862zp0 => walk_at "c pen"); (case z862zp6 => k_mem); (case z862zp1 => k_mem); (case z862zp2 => assumption); (case z862zp3 => assumption); (case z862zp4 => first | assumption | decide | omega); (case z862zp5 => first | assumption | decide | omega); (case z862zp7 => exact Nat.le_of_ble_eq_true rfl); (case z862zp8 => exact Nat.le_of_ble_eq_true rfl); intro v' sp' t1' re' t2' h' tk' F' N' hv' b3 b4; (obtain ⟨k', t', e', hk'⟩ := menu4 hv'); subst e'; (have hGr' := Draws.great (t := k') (by assumption) (by first | assumption | decide | omega) (by first | assumption | decide | omega) (by walk_at "c zero") hk'); (try k_sweep); (try dsimp only); (try k_fold)))
  k_with "call ref" =>
    (k_here; (with_reducible show wpAny _ _ (call (Value.ref 536) [Value.ref _, _]) _ _ _); k_dflt (refine' c_formN ?z863zcB ?z863zcF ?z863zcX ?z863zcN ?z863zcT ?z863zcK ?z863zcD ?z863zcU ?z863zp0 ?z863zp1 ?z863zp2 ?_; (case z863zcB => k_asm); (case z863zcF => k_asm); (case z863zcX => k_asm); (case z863zcN => k_asm); (case z863zcT => k_asm); (case z863zcK => first | exact rfl | assumption); (case z863zcD => walk_at "c dp"); (case z863zcU => walk_at "c un"); (case z863zp0 => exact fun _ h9 => h9); (case z863zp1 => k_mem); (case z863zp2 => exact NumIs.mono (by with_reducible assumption) (by walk_at "c sub")); intro x' M' h' tk' F' N' l1' hf'; (try k_sweep); (try dsimp only); (try k_fold)))
  k_with "call ref" =>
    (k_here; (with_reducible show wpAny _ _ (call (Value.ref 543) [Value.ref _, Value.ref _]) _ _ _); k_dflt (refine' c_headN ?z864zcB ?z864zcF ?z864zcX ?z864zcN ?z864zcT ?z864zcK ?z864zcD ?z864zcU ?z864zp0 ?z864zp1 ?z864zp2 ?_; (case z864zcB => k_asm); (case z864zcF => k_asm); (case z864zcX => k_asm); (case z864zcN => k_asm); (case z864zcT => k_asm); (case z864zcK => first | exact rfl | assumption); (case z864zcD => walk_at "c dp"); (case z864zcU => walk_at "c un"); (case z864zp0 => exact fun _ h9 => h9); (case z864zp1 => exact FormIs.mono (by with_reducible assumption) (by walk_at "c sub")); (case z864zp2 => k_mem); intro x' M' h' tk' F' N' l1' hh'; (try k_sweep); (try dsimp only); (try k_fold)))
  k_with "call ref" =>
    (k_here; (with_reducible show wpAny _ _ (call (Value.ref 510) [Value.ref _, Value.ref _, Value.int _ _]) _ _ _); k_dflt (refine' c_placed3 ?z865zcB ?z865zcF ?z865zcX ?z865zcN ?z865zcT ?z865zcK ?z865zcD ?z865zcU ?z865zp0 ?z865zp1 ?z865zp2 ?z865zp3 ?z865zp4 ?z865zp5 ?z865zp6 ?z865zp7 ?z865zp8 ?_; (case z865zcB => k_asm); (case z865zcF => k_asm); (case z865zcX => k_asm); (case z865zcN => k_asm); (case z865zcT => k_asm); (case z865zcK => first | exact rfl | assumption); (case z865zcD => walk_at "c dp"); (case z865zcU => walk_at "c un"); (case z865zp0 => k_mem); (case z865zp1 => k_mem); (case z865zp2 => exact fun _ h9 => h9); (case z865zp3 => exact HeadIs.mono (by with_reducible assumption) (by walk_at "c sub")); (case z865zp4 => exact Great.box (by assumption)); (case z865zp5 => exact Draws.target (by assumption)); (case z865zp6 => exact Draws.mat (by assumption)); (case z865zp7 => exact Great.gx (by assumption)); (case z865zp8 => exact Great.gy (by assumption)); intro x' M' qa' qb' qc' qd' qe' qf' h' tk' F' N' l1' hM' hA'; (try k_sweep); (try dsimp only); (try k_fold)))
  trivial

theorem sJ (B : Below A₀ base outer h₀) (F : Fr h₀ L s.heap m) (X : (Mine.hd0.heap_1 w.params).In h₀) (T : Top VW LS mean mg mb h₀) (hd : dp + 100 < recursionLimit) (hu : un + 1000 < cLine) {p c cp ct : Addr} {ocp oct : Obj} {sp re : Int} {t1 t2 : Tok} {np : Nat} {ys : List Value} {nc : Nat} {ns : List Int} {led out : List (Addr × Obj)} (N : News h₀ L s.heap led) (hout : LOut p ct cp c led out) (hpen : (p, penObj c sp t1 re t2 np) ∈ led) (hctm : (ct, oct) ∈ led) (hcpm : (cp, ocp) ∈ led) (hcm : (c, listOf ys.toArray nc) ∈ led) (hcp : ocp.data = .cell (some (.ref p))) (hct : oct.data = .cell none) (hi : IntsAre ys ns) (hn9 : ns.length ≤ 63) (h0 : 0 ≤ sp) (hlt : @LT.lt Nat _ cp ct ∧ @LT.lt Nat _ ct p ∧ @LT.lt Nat _ c p ∧ @Ne Nat ct c ∧ @Ne Nat cp c) (hup : ∀ q ∈ out, @LT.lt Nat _ p q.1) (h9 : sp ≤ 40) {fa fb fc fd wd hg ma mb mc md me mf ta tb tc td : Int} (hD : Draws fa fb fc fd wd hg ma mb mc md me mf ta tb tc td) {sh dsh stb str : Addr} {ks1 ks2 : Tok} (hsh : (sh, instObj 473 dsh) ∈ out) (hdsh : (dsh, shelfObj w stb str ks1 ks2) ∈ out) (m_shelf : m (PySem.Str.ofString "shelf") = some (.ref sh)) {twd : Tok} (m_wide : m (PySem.Str.ofString "wide") = some (.int wd twd)) {thg : Tok} (m_high : m (PySem.Str.ofString "high") = some (.int hg thg)) {lf : Addr} {nf : Nat} {u1 u2 u3 u4 : Tok} (hlf : (lf, listOf #[.int fa u1, .int fb u2, .int fc u3, .int fd u4] nf) ∈ out) (m_frame : m (PySem.Str.ofString "frame") = some (.ref lf)) {vn : Value} (hvn : NumIs out vn ma mb mc md me mf) (m_numbers : m (PySem.Str.ofString "numbers") = some (vn)) {lt : Addr} {nt : Nat} {v1 v2 v3 v4 : Tok} (hltg : (lt, listOf #[.int ta v1, .int tb v2, .int tc v3, .int td v4] nt) ∈ out) (m_target : m (PySem.Str.ofString "target") = some (.ref lt)) {hdA : Addr} (hHd : HeadIs w out hdA fa fb fc fd ma mb mc md me mf ta tb tc td) (m_head : m (PySem.Str.ofString "head") = some (.ref hdA)) {mx : Addr} {qa qb qc qd qe qf : Rat} (hMx : MatIs w out mx qa qb qc qd qe qf) (hAM : IsAM0 fa fb fc fd ma mb mc md me mf ta tb tc td qa qb qc qd qe qf) (m_m : m (PySem.Str.ofString "m") = some (.ref mx))  (ret : ∀ m' h' tk', Fr h₀ L h' m' → Q (.ret (.bool true)) { s with heap := h', toks := tk' }) : wpAny (model PySem.Challenge.rw_qz0079_01.row.prog w) (ktrTop dp un gd cn lawScope L a₀ ccd [(PySem.Str.ofString "times", ct), (PySem.Str.ofString "pen", cp)] outer) (execs (lawBody.drop 15) (envX cn lawScope L a₀ ccd [(PySem.Str.ofString "times", ct), (PySem.Str.ofString "pen", cp)])) Q (fun _ _ => False) s := by
  replace N := led4 N hpen hctm hcpm hcm hout
  have hlt5 : @LT.lt Nat _ cp p := Nat.lt_trans hlt.1 hlt.2.1
  have hup' : ∀ q ∈ out, q.1 ≠ p := fun q hq => Nat.ne_of_gt (hup q hq)
  have huc' : ∀ q ∈ out, q.1 ≠ ct := fun q hq => Nat.ne_of_gt (Nat.lt_trans hlt.2.1 (hup q hq))
  clear hout hpen hctm hcpm hcm
  obtain ⟨sm1, sm2, sm3, sm4⟩ := draws_small hD
  conv in List.drop _ lawBody => whnf
  conv in (occs := *) lawScope => whnf
  revert X; k_fill; intro X
  w_on
  (try k_fold)
  k_steps
  all_goals trace_state
end
end PartCJ
section PartCI
theorem lines_CI_1 : True := by
  k_with_none
  k_with "c mem" =>
    first | ((with_reducible refine' mem_here ?z866zh9); (case z866zh9 => exact rfl)) | ((with_reducible refine' mem_nth 1 ?z866zh9); (case z866zh9 => exact rfl)) | ((with_reducible refine' mem_nth 2 ?z866zh9); (case z866zh9 => exact rfl)) | ((with_reducible refine' mem_nth 3 ?z866zh9); (case z866zh9 => exact rfl)) | ((with_reducible refine' mem_nth 4 ?z866zh9); (case z866zh9 => exact rfl)) | ((with_reducible refine' mem_nth 5 ?z866zh9); (case z866zh9 => exact rfl)) | ((with_reducible refine' mem_nth 6 ?z866zh9); (case z866zh9 => exact rfl)) | ((with_reducible refine' mem_nth 7 ?z866zh9); (case z866zh9 => exact rfl)) | ((with_reducible refine' mem_nth 8 ?z866zh9); (case z866zh9 => exact rfl)) | ((with_reducible refine' mem_nth 9 ?z866zh9); (case z866zh9 => exact rfl)) | ((with_reducible refine' mem_skip ?_); walk_at "c mem") | (with_reducible exact List.mem_append_left _ (by with_reducible assumption)) | ktr_member | ((with_reducible refine' List.mem_cons_of_mem _ ?_); walk_at "c mem") | ((with_reducible refine' List.mem_append_right _ ?_); walk_at "c mem")
  k_with "c room" =>
    with_reducible first | assumption | exact room1 (by assumption) rfl | exact room2 (by assumption) rfl | exact room3 (by assumption) rfl | exact room4 (by assumption) rfl
  k_with "c le" =>
    with_reducible first | assumption | exact Nat.le_trans (by assumption) (by decide)
  k_with "c lt1" =>
    with_reducible first | assumption | exact cj0 | exact cj1 | exact cj2 | exact cj3 | exact cj4 | exact cj5 | exact cj6 | exact cj7 | exact cj8 | exact cj9 | exact cj10 | exact cj11 | exact cj12 | exact cj13 | exact cj14 | exact cj15 | exact cj16 | exact cj17 | exact cj18 | exact cj19 | exact cj20 | exact cj21 | exact cj22 | exact cj23 | exact And.right (by with_reducible assumption) | exact And.right (And.right (by with_reducible assumption)) | exact And.right (And.right (And.right (by with_reducible assumption))) | exact And.right (And.right (And.right (And.right (by with_reducible assumption))))
  k_with "c lt2" =>
    ((with_reducible refine' Nat.lt_trans ?z870za9 ?z870zb9); (case z870zb9 => with_reducible assumption); (case z870za9 => walk_at "c lt1"))
  k_with "c lt" =>
    first | walk_at "c lt1" | walk_at "c lt2"
  k_with "c up3" =>
    with_reducible first | exact abv3 (by assumption) | exact abv3_1 (by assumption) | exact abv3_2 (by assumption) | exact abv3_3 (by assumption) | exact abv3_4 (by assumption) | (refine' Abv3.tr ?z872za9 ?z872zb9; (case z872za9 => assumption); (case z872zb9 => walk_at "c up3"))
  k_with "c ne" =>
    first | with_reducible (first | assumption | exact And.left (by assumption) | exact Ne.symm (And.left (by assumption)) | exact And.left (And.right (by assumption)) | exact Ne.symm (And.left (And.right (by assumption))) | exact And.right (And.right (by assumption)) | exact Ne.symm (And.right (And.right (by assumption))) | exact neq_lt (by assumption) | exact neq_gt (by assumption) | exact nl0 | exact nr0 | exact nl1 | exact nr1 | exact nl2 | exact nr2 | exact nl3 | exact nr3 | exact nl4 | exact nr4 | exact nl5 | exact nr5 | exact nl6 | exact nr6 | exact nl7 | exact nr7 | exact nl8 | exact nr8 | exact nl9 | exact nr9 | exact nl10 | exact nr10 | exact nl11 | exact nr11 | exact nl12 | exact nr12 | exact nl13 | exact nr13 | exact nl14 | exact nr14 | exact nl15 | exact nr15 | exact nl16 | exact nr16 | exact nl17 | exact nr17 | exact nl18 | exact nr18 | exact nl19 | exact nr19 | exact nl20 | exact nr20 | exact nl21 | exact nr21 | exact nl22 | exact nr22 | exact nl23 | exact nr23) | ((with_reducible refine' neq_lt ?z873zz9); (case z873zz9 => walk_at "c lt2")) | ((with_reducible refine' neq_gt ?z873zz9); (case z873zz9 => walk_at "c lt2")) | ((try dsimp only); omega)
  k_with "c dp" =>
    ((try simp only [depth_under_make, depth_under_kw, depth_in1, depth_deeper, depth_caller]); (try dsimp only [ktrTop]); first | walk_at "c room" | omega | decide)
  k_with "c un" =>
    ((try simp only [units_make, units_in1, units_deeper, Around.mark_units, units_caller]); (try dsimp only [ktrTop]); first | walk_at "c room" | omega | decide)
  k_with "c in" =>
    first | assumption | exact List.mem_append_left _ (by walk_at "c in") | exact List.mem_append_right _ (by walk_at "c in") | exact List.mem_cons_of_mem _ (by walk_at "c in")
  k_with "c sub" =>
    first | (refine List.forall_mem_cons.mpr ⟨?z877za, ?z877zb⟩; (case z877za => walk_at "c mem"); (case z877zb => walk_at "c sub")) | (refine List.forall_mem_append.mpr ⟨?z877za, ?z877zb⟩; (case z877za => walk_at "c sub"); (case z877zb => walk_at "c sub")) | exact List.forall_mem_nil _ | (intro p9 h9; walk_at "c in")
  k_with "c out" =>
    first | ((with_reducible refine' LOut.skip ?z878za ?z878zb); (case z878za => first | exact Or.inl rfl | exact Or.inr (Or.inl rfl) | exact Or.inr (Or.inr (Or.inl rfl)) | exact Or.inr (Or.inr (Or.inr rfl))); (case z878zb => walk_at "c out")) | ((with_reducible refine' LOut.take ?z878za); (case z878za => walk_at "c out")) | ((with_reducible refine' LOut.app ?z878za); (case z878za => walk_at "c out")) | exact LOut.rest
  k_with "c up" =>
    first | (refine List.forall_mem_cons.mpr ⟨?z879za, ?z879zb⟩; (case z879za => ((try dsimp only); first | walk_at "c lt" | exact (by assumption : ∀ q ∈ _, q.1 < _) _ (by walk_at "c mem") | omega)); (case z879zb => walk_at "c up")) | (refine List.forall_mem_append.mpr ⟨?z879za, ?z879zb⟩; (case z879za => exact fresh_up (by assumption) (by walk_at "c mem")); (case z879zb => walk_at "c up")) | exact List.forall_mem_nil _ | assumption
  k_with "c pen" =>
    first | exact PenOut.done (by walk_at "c off") | (refine' PenOut.take ?z880za ?z880zb; (case z880za => k_ne); (case z880zb => walk_at "c pen"))
  k_with "c off" =>
    first | assumption | exact List.forall_mem_nil _ | (refine List.forall_mem_cons.mpr ⟨?z881za, ?z881zb⟩; (case z881za => k_ne); (case z881zb => walk_at "c off"))
  k_with "c bnd" =>
    with_reducible (first | assumption | exact Bnd.pow _ | (refine' Bnd.fdiv ?z882za; (case z882za => walk_at "c bnd")) | (exact Bnd.mul (by walk_at "c bnd") (by walk_at "c bnd")) | (exact Bnd.add1 (by walk_at "c bnd") (by walk_at "c bnd")) | (exact Bnd.sub1 (by walk_at "c bnd") (by walk_at "c bnd")) | (exact Bnd.add (by walk_at "c bnd") (by walk_at "c bnd")) | (exact Bnd.sub (by walk_at "c bnd") (by walk_at "c bnd")))
  k_with "c ar" =>
    first | assumption | decide | omega | (split <;> omega)
  k_with "c mul" =>
    exact mulOk_bnd (by walk_at "c bnd") (by walk_at "c bnd") (by walk_at "c ar") (by walk_at "c ar")
  k_with "binaryOp Pow int int" =>
    ((with_reducible refine pow_int_small ?z885zkb1 ?z885zkb2 ?z885zkb3 ?_); (case z885zkb1 => walk_at "c ar"); (case z885zkb2 => walk_at "c ar"); (case z885zkb3 => decide))
  k_with "call ref" =>
    (k_here; (with_reducible show wpAny _ _ (call (Prod.fst _) (_ ++ _)) _ _ _); dsimp only [List.nil_append, List.cons_append])
  k_with "subscriptTail" =>
    (k_here; (with_reducible show wpAny _ _ (subscriptTail _ _ (Value.ref _) (Value.int _ _)) _ _ _); k_dflt (first
    | (refine' item_tupleT ?z887zt ?z887za ?z887zb ?z887zc ?z887zd ?_; (case z887zt => exact News.isTup (by k_asm) (by k_mem)); (case z887za => decide); (case z887zb => decide); (case z887zc => exact rfl); (case z887zd => exact rfl); k_whole)
    | (refine' c_item ?z887zN ?z887zm ?z887za ?z887zb ?z887zc ?_ ?z887zz; (case z887zN => k_asm); (case z887zm => k_mem); (case z887za => decide); (case z887zb => decide); (case z887zc => exact rfl); (case z887zz => with_unfolding_all rfl); k_whole)))
  k_with "subscriptTail Name Constant ref int" =>
    (k_here; (with_reducible show wpAny _ _ (subscriptTail _ _ (Value.ref _) (Value.int _ _)) _ _ _); k_dflt (first
    | (refine' item_tupleT ?z888zt ?z888za ?z888zb ?z888zc ?z888zd ?_; (case z888zt => exact News.isTup (by k_asm) (by k_mem)); (case z888za => decide); (case z888zb => decide); (case z888zc => exact rfl); (case z888zd => exact rfl); k_whole)
    | (refine' c_item ?z888zN ?z888zm ?z888za ?z888zb ?z888zc ?_ ?z888zz; (case z888zN => k_asm); (case z888zm => k_mem); (case z888za => decide); (case z888zb => decide); (case z888zc => exact rfl); (case z888zz => with_unfolding_all rfl); k_whole)))
  trivial
section
variable {w : World} {mean : ExcName → Option Value} {mg mb : PySem.Str → Option Value} {dp un : Nat} {gd : Option (List Code)} {cn : PySem.Str} {cs : Scope} {a₀ : Addr} {ccd : Value} {cl : List (PySem.Str × Addr)} {outer : List Env}
  {A₀ : Around} {base h₀ : Heap} {L : Addr} {m : PySem.Str → Option Value} {s : Shared} {news : List (Addr × Obj)} {Q : Flow → Shared → Prop} {E : Value → Shared → Prop}
theorem lines_CI_2 : True := by
  k_with "c les" =>
    ((with_reducible refine' sub_of ?z889zhc9 ?z889zhr9); (case z889zhc9 => with_reducible assumption); (case z889zhr9 => walk_at "c out"))
  k_with "c wo" =>
    first | ((with_reducible refine' Wo.skip ?z890za); (case z890za => walk_at "c wo")) | ((with_reducible refine' Wo.take ?z890za); (case z890za => walk_at "c wo")) | exact Wo.rest
  k_with "eval Name" =>
    (k_here; k_dflt (refine' nameX_L ?z891zF ?z891zv ?_ ?z891za ?z891zb; (case z891zF => k_asm); (case z891za => exact rfl); (case z891zb => exact rfl); (case z891zv => first | exact rfl | assumption); k_whole))
  k_with "exec For Name Tuple cons nil" =>
    (k_here; (rename Fr _ _ _ _ => lF'); (with_unfolding_all refine' For_turns lF' ?_; k_whole))
  k_with "exec For Tuple Tuple cons nil" =>
    (k_here; (rename Fr _ _ _ _ => lF'); (with_unfolding_all refine' For_turns lF' ?_; k_whole))
  k_with "pyIter ref" =>
    (k_here; (with_reducible show wpAny _ _ (pyIter (Value.ref _)) (fun it s₂ => TurnsAt _ _ _ _ _ _ _ _ _ it s₂) _ _); k_dflt (refine' c_iterT ?z894zhh ?z894zF ?z894zN ?z894zm ?_; (case z894zhh => exact rfl); (case z894zF => k_asm); (case z894zN => k_asm); (case z894zm => k_mem); intro I' lI' tag'))
  k_with "UnrEndW" =>
    (k_dflt (refine' unrw_end ?z895zt ?z895zl ?z895zk ?z895zF ?z895zN ?z895zi ?z895zs ?_; (case z895zt => assumption); (case z895zF => k_asm); (case z895zN => k_asm); (case z895zl => assumption); (case z895zk => k_mem); (case z895zi => k_mem); (case z895zs => walk_at "c sub")))
  k_with "execs cons If nil" =>
    (k_here; k_dflt (refine' sWay ?z896zB ?z896zF ?z896zX ?z896zT ?z896zcd ?z896zcu ?z896zN ?z896zp0 ?z896zp1 ?z896zp2 ?z896zp3 ?z896zp4 ?z896zp5 ?z896zp6 ?z896zp7 ?z896zp8 ?z896zp9 ?_; (case z896zB => k_asm); (case z896zF => k_asm); (case z896zX => k_asm); (case z896zT => k_asm); (case z896zcd => assumption); (case z896zcu => assumption); (case z896zN => k_asm); (case z896zp0 => assumption); (case z896zp3 => first | exact rfl | assumption); (case z896zp5 => first | exact rfl | assumption); (case z896zp8 => first | exact rfl | assumption); (case z896zp9 => first | exact rfl | assumption); (case z896zp1 => k_mem); (case z896zp2 => k_mem); (case z896zp4 => exact HeadIs.mono (by with_reducible assumption) (by walk_at "c sub")); (case z896zp6 => exact MatIs.mono (by with_reducible assumption) (by walk_at "c sub")); (case z896zp7 => assumption)); intro h' tk' F' N'; (try k_sweep))
  k_with "execs cons If cons" =>
    (k_here; k_dflt (refine' sJ ?z897zB ?z897zF ?z897zX ?z897zT ?z897zcd ?z897zcu ?z897zN ?z897zho ?z897zhp ?z897zh2 ?z897zh3 ?z897zh4 ?z897ze1 ?z897ze2 ?z897zi ?z897zn9 ?z897zb0 ?z897zlt ?z897zup ?z897zb9 ?z897zp0 ?z897zp1 ?z897zp2 ?z897zp3 ?z897zp4 ?z897zp5 ?z897zp6 ?z897zp7 ?z897zp8 ?z897zp9 ?z897zp10 ?z897zp11 ?z897zp12 ?z897zp13 ?z897zp14 ?z897zp15 ?z897zp16 ?z897zret; (case z897zB => k_asm); (case z897zF => k_asm); (case z897zX => k_asm); (case z897zT => k_asm); (case z897zcd => assumption); (case z897zcu => assumption); (case z897zN => k_asm); (case z897zh3 => k_mem); (case z897ze1 => assumption); (case z897zhp => k_mem); (case z897zh4 => k_mem); (case z897zh2 => k_mem); (case z897ze2 => assumption); (case z897zi => assumption); (case z897zn9 => assumption); (case z897zb0 => first | assumption | decide | omega); (case z897zb9 => first | assumption | decide | omega); (case z897zlt => first | with_reducible assumption | (refine ⟨?_, ?_, ?_, ?_, ?_⟩ <;> omega)); (case z897zho => walk_at "c out"); (case z897zup => walk_at "c up"); (case z897zp3 => first | exact rfl | assumption); (case z897zp4 => first | exact rfl | assumption); (case z897zp5 => first | exact rfl | assumption); (case z897zp7 => first | exact rfl | assumption); (case z897zp9 => first | exact rfl | assumption); (case z897zp11 => first | exact rfl | assumption); (case z897zp13 => first | exact rfl | assumption); (case z897zp16 => first | exact rfl | assumption); (case z897zp0 => assumption); (case z897zp1 => k_mem); (case z897zp2 => k_mem); (case z897zp6 => k_mem); (case z897zp8 => exact NumIs.mono (by assumption) (by walk_at "c sub")); (case z897zp10 => k_mem); (case z897zp12 => exact HeadIs.mono (by assumption) (by walk_at "c sub")); (case z897zp14 => exact MatIs.mono (by assumption) (by walk_at "c sub")); (case z897zp15 => assumption); (case z897zret => assumption)))
  trivial

theorem sI (B : Below A₀ base outer h₀) (F : Fr h₀ L s.heap m) (X : (Mine.hd0.heap_1 w.params).In h₀) (T : Top VW LS mean mg mb h₀) (hd : dp + 100 < recursionLimit) (hu : un + 1000 < cLine) {p c cp ct : Addr} {ocp oct : Obj} {sp re : Int} {t1 t2 : Tok} {np : Nat} {ys : List Value} {nc : Nat} {ns : List Int} {led out : List (Addr × Obj)} (N : News h₀ L s.heap led) (hout : LOut p ct cp c led out) (hpen : (p, penObj c sp t1 re t2 np) ∈ led) (hctm : (ct, oct) ∈ led) (hcpm : (cp, ocp) ∈ led) (hcm : (c, listOf ys.toArray nc) ∈ led) (hcp : ocp.data = .cell (some (.ref p))) (hct : oct.data = .cell none) (hi : IntsAre ys ns) (hn9 : ns.length ≤ 63) (h0 : 0 ≤ sp) (hlt : @LT.lt Nat _ cp ct ∧ @LT.lt Nat _ ct p ∧ @LT.lt Nat _ c p ∧ @Ne Nat ct c ∧ @Ne Nat cp c) (hup : ∀ q ∈ out, @LT.lt Nat _ p q.1) (h9 : sp ≤ 40) {fa fb fc fd wd hg ma mb mc md me mf ta tb tc td : Int} (hD : Draws fa fb fc fd wd hg ma mb mc md me mf ta tb tc td) {sh dsh stb str : Addr} {ks1 ks2 : Tok} (hsh : (sh, instObj 473 dsh) ∈ out) (hdsh : (dsh, shelfObj w stb str ks1 ks2) ∈ out) (m_shelf : m (PySem.Str.ofString "shelf") = some (.ref sh)) {twd : Tok} (m_wide : m (PySem.Str.ofString "wide") = some (.int wd twd)) {thg : Tok} (m_high : m (PySem.Str.ofString "high") = some (.int hg thg)) {lf : Addr} {nf : Nat} {u1 u2 u3 u4 : Tok} (hlf : (lf, listOf #[.int fa u1, .int fb u2, .int fc u3, .int fd u4] nf) ∈ out) (m_frame : m (PySem.Str.ofString "frame") = some (.ref lf)) {vn : Value} (hvn : NumIs out vn ma mb mc md me mf) (m_numbers : m (PySem.Str.ofString "numbers") = some (vn)) {lt : Addr} {nt : Nat} {v1 v2 v3 v4 : Tok} (hltg : (lt, listOf #[.int ta v1, .int tb v2, .int tc v3, .int td v4] nt) ∈ out) (m_target : m (PySem.Str.ofString "target") = some (.ref lt)) {hdA : Addr} (hHd : HeadIs w out hdA fa fb fc fd ma mb mc md me mf ta tb tc td) (m_head : m (PySem.Str.ofString "head") = some (.ref hdA)) {mx : Addr} {qa qb qc qd qe qf : Rat} (hMx : MatIs w out mx qa qb qc qd qe qf) (hAM : IsAM0 fa fb fc fd ma mb mc md me mf ta tb tc td qa qb qc qd qe qf) (m_m : m (PySem.Str.ofString "m") = some (.ref mx))  (ret : ∀ m' h' tk', Fr h₀ L h' m' → Q (.ret (.bool true)) { s with heap := h', toks := tk' }) : wpAny (model PySem.Challenge.rw_qz0079_01.row.prog w) (ktrTop dp un gd cn lawScope L a₀ ccd [(PySem.Str.ofString "times", ct), (PySem.Str.ofString "pen", cp)] outer) (execs (lawBody.drop 14) (envX cn lawScope L a₀ ccd [(PySem.Str.ofString "times", ct), (PySem.Str.ofString "pen", cp)])) Q (fun _ _ => False) s := by
  replace N := led4 N hpen hctm hcpm hcm hout
  have hlt5 : @LT.lt Nat _ cp p := Nat.lt_trans hlt.1 hlt.2.1
  have hup' : ∀ q ∈ out, q.1 ≠ p := fun q hq => Nat.ne_of_gt (hup q hq)
  have huc' : ∀ q ∈ out, q.1 ≠ ct := fun q hq => Nat.ne_of_gt (Nat.lt_trans hlt.2.1 (hup q hq))
  clear hout hpen hctm hcpm hcm
  conv in List.drop _ lawBody => whnf
  conv in (occs := *) lawScope => whnf
  revert X; k_fill; intro X
  w_on
  (try k_fold)
  k_steps
end
end PartCI
section PartCG
theorem lines_CG_1 : True := by
  k_with_none
  k_with "c mem" =>
    first | ((with_reducible refine' mem_here ?z898zh9); (case z898zh9 => exact rfl)) | ((with_reducible refine' mem_nth 1 ?z898zh9); (case z898zh9 => exact rfl)) | ((with_reducible refine' mem_nth 2 ?z898zh9); (case z898zh9 => exact rfl)) | ((with_reducible refine' mem_nth 3 ?z898zh9); (case z898zh9 => exact rfl)) | ((with_reducible refine' mem_nth 4 ?z898zh9); (case z898zh9 => exact rfl)) | ((with_reducible refine' mem_nth 5 ?z898zh9); (case z898zh9 => exact rfl)) | ((with_reducible refine' mem_nth 6 ?z898zh9); (case z898zh9 => exact rfl)) | ((with_reducible refine' mem_nth 7 ?z898zh9); (case z898zh9 => exact rfl)) | ((with_reducible refine' mem_nth 8 ?z898zh9); (case z898zh9 => exact rfl)) | ((with_reducible refine' mem_nth 9 ?z898zh9); (case z898zh9 => exact rfl)) | ((with_reducible refine' mem_skip ?_); walk_at "c mem") | (with_reducible exact List.mem_append_left _ (by with_reducible assumption)) | ktr_member | ((with_reducible refine' List.mem_cons_of_mem _ ?_); walk_at "c mem") | ((with_reducible refine' List.mem_append_right _ ?_); walk_at "c mem")
  k_with "c room" =>
    with_reducible first | assumption | exact room1 (by assumption) rfl | exact room2 (by assumption) rfl | exact room3 (by assumption) rfl | exact room4 (by assumption) rfl
  k_with "c le" =>
    with_reducible first | assumption | exact Nat.le_trans (by assumption) (by decide)
  k_with "c lt1" =>
    with_reducible first | assumption | exact cj0 | exact cj1 | exact cj2 | exact cj3 | exact cj4 | exact cj5 | exact cj6 | exact cj7 | exact cj8 | exact cj9 | exact cj10 | exact cj11 | exact cj12 | exact cj13 | exact cj14 | exact cj15 | exact cj16 | exact cj17 | exact cj18 | exact cj19 | exact cj20 | exact cj21 | exact cj22 | exact cj23 | exact And.right (by with_reducible assumption) | exact And.right (And.right (by with_reducible assumption)) | exact And.right (And.right (And.right (by with_reducible assumption))) | exact And.right (And.right (And.right (And.right (by with_reducible assumption))))
  k_with "c lt2" =>
    ((with_reducible refine' Nat.lt_trans ?z902za9 ?z902zb9); (case z902zb9 => with_reducible assumption); (case z902za9 => walk_at "c lt1"))
  k_with "c lt" =>
    first | walk_at "c lt1" | walk_at "c lt2"
  k_with "c up3" =>
    with_reducible first | exact abv3 (by assumption) | exact abv3_1 (by assumption) | exact abv3_2 (by assumption) | exact abv3_3 (by assumption) | exact abv3_4 (by assumption) | (refine' Abv3.tr ?z904za9 ?z904zb9; (case z904za9 => assumption); (case z904zb9 => walk_at "c up3"))
  k_with "c ne" =>
    first | with_reducible (first | assumption | exact And.left (by assumption) | exact Ne.symm (And.left (by assumption)) | exact And.left (And.right (by assumption)) | exact Ne.symm (And.left (And.right (by assumption))) | exact And.right (And.right (by assumption)) | exact Ne.symm (And.right (And.right (by assumption))) | exact neq_lt (by assumption) | exact neq_gt (by assumption) | exact nl0 | exact nr0 | exact nl1 | exact nr1 | exact nl2 | exact nr2 | exact nl3 | exact nr3 | exact nl4 | exact nr4 | exact nl5 | exact nr5 | exact nl6 | exact nr6 | exact nl7 | exact nr7 | exact nl8 | exact nr8 | exact nl9 | exact nr9 | exact nl10 | exact nr10 | exact nl11 | exact nr11 | exact nl12 | exact nr12 | exact nl13 | exact nr13 | exact nl14 | exact nr14 | exact nl15 | exact nr15 | exact nl16 | exact nr16 | exact nl17 | exact nr17 | exact nl18 | exact nr18 | exact nl19 | exact nr19 | exact nl20 | exact nr20 | exact nl21 | exact nr21 | exact nl22 | exact nr22 | exact nl23 | exact nr23) | ((with_reducible refine' neq_lt ?z905zz9); (case z905zz9 => walk_at "c lt2")) | ((with_reducible refine' neq_gt ?z905zz9); (case z905zz9 => walk_at "c lt2")) | ((try dsimp only); omega)
  k_with "c dp" =>
    ((try simp only [depth_under_make, depth_under_kw, depth_in1, depth_deeper, depth_caller]); (try dsimp only [ktrTop]); first | walk_at "c room" | omega | decide)
  k_with "c un" =>
    ((try simp only [units_make, units_in1, units_deeper, Around.mark_units, units_caller]); (try dsimp only [ktrTop]); first | walk_at "c room" | omega | decide)
  k_with "c in" =>
    first | assumption | exact List.mem_append_left _ (by walk_at "c in") | exact List.mem_append_right _ (by walk_at "c in") | exact List.mem_cons_of_mem _ (by walk_at "c in")
  k_with "c sub" =>
    first | (refine List.forall_mem_cons.mpr ⟨?z909za, ?z909zb⟩; (case z909za => walk_at "c mem"); (case z909zb => walk_at "c sub")) | (refine List.forall_mem_append.mpr ⟨?z909za, ?z909zb⟩; (case z909za => walk_at "c sub"); (case z909zb => walk_at "c sub")) | exact List.forall_mem_nil _ | (intro p9 h9; walk_at "c in")
  k_with "c out" =>
    first | ((with_reducible refine' LOut.skip ?z910za ?z910zb); (case z910za => first | exact Or.inl rfl | exact Or.inr (Or.inl rfl) | exact Or.inr (Or.inr (Or.inl rfl)) | exact Or.inr (Or.inr (Or.inr rfl))); (case z910zb => walk_at "c out")) | ((with_reducible refine' LOut.take ?z910za); (case z910za => walk_at "c out")) | ((with_reducible refine' LOut.app ?z910za); (case z910za => walk_at "c out")) | exact LOut.rest
  k_with "c up" =>
    first | (refine List.forall_mem_cons.mpr ⟨?z911za, ?z911zb⟩; (case z911za => ((try dsimp only); first | walk_at "c lt" | exact (by assumption : ∀ q ∈ _, q.1 < _) _ (by walk_at "c mem") | omega)); (case z911zb => walk_at "c up")) | (refine List.forall_mem_append.mpr ⟨?z911za, ?z911zb⟩; (case z911za => exact fresh_up (by assumption) (by walk_at "c mem")); (case z911zb => walk_at "c up")) | exact List.forall_mem_nil _ | assumption
  k_with "c pen" =>
    first | exact PenOut.done (by walk_at "c off") | (refine' PenOut.take ?z912za ?z912zb; (case z912za => k_ne); (case z912zb => walk_at "c pen"))
  k_with "c off" =>
    first | assumption | exact List.forall_mem_nil _ | (refine List.forall_mem_cons.mpr ⟨?z913za, ?z913zb⟩; (case z913za => k_ne); (case z913zb => walk_at "c off"))
  k_with "c bnd" =>
    with_reducible (first | assumption | exact Bnd.pow _ | (refine' Bnd.fdiv ?z914za; (case z914za => walk_at "c bnd")) | (exact Bnd.mul (by walk_at "c bnd") (by walk_at "c bnd")) | (exact Bnd.add1 (by walk_at "c bnd") (by walk_at "c bnd")) | (exact Bnd.sub1 (by walk_at "c bnd") (by walk_at "c bnd")) | (exact Bnd.add (by walk_at "c bnd") (by walk_at "c bnd")) | (exact Bnd.sub (by walk_at "c bnd") (by walk_at "c bnd")))
  k_with "c ar" =>
    first | assumption | decide | omega | (split <;> omega)
  k_with "c mul" =>
    exact mulOk_bnd (by walk_at "c bnd") (by walk_at "c bnd") (by walk_at "c ar") (by walk_at "c ar")
  k_with "binaryOp Pow int int" =>
    ((with_reducible refine pow_int_small ?z917zkb1 ?z917zkb2 ?z917zkb3 ?_); (case z917zkb1 => walk_at "c ar"); (case z917zkb2 => walk_at "c ar"); (case z917zkb3 => decide))
  k_with "call ref" =>
    (k_here; (with_reducible show wpAny _ _ (call (Prod.fst _) (_ ++ _)) _ _ _); dsimp only [List.nil_append, List.cons_append])
  k_with "subscriptTail" =>
    (k_here; (with_reducible show wpAny _ _ (subscriptTail _ _ (Value.ref _) (Value.int _ _)) _ _ _); k_dflt (first
    | (refine' item_tupleT ?z919zt ?z919za ?z919zb ?z919zc ?z919zd ?_; (case z919zt => exact News.isTup (by k_asm) (by k_mem)); (case z919za => decide); (case z919zb => decide); (case z919zc => exact rfl); (case z919zd => exact rfl); k_whole)
    | (refine' c_item ?z919zN ?z919zm ?z919za ?z919zb ?z919zc ?_ ?z919zz; (case z919zN => k_asm); (case z919zm => k_mem); (case z919za => decide); (case z919zb => decide); (case z919zc => exact rfl); (case z919zz => with_unfolding_all rfl); k_whole)))
  k_with "subscriptTail Name Constant ref int" =>
    (k_here; (with_reducible show wpAny _ _ (subscriptTail _ _ (Value.ref _) (Value.int _ _)) _ _ _); k_dflt (first
    | (refine' item_tupleT ?z920zt ?z920za ?z920zb ?z920zc ?z920zd ?_; (case z920zt => exact News.isTup (by k_asm) (by k_mem)); (case z920za => decide); (case z920zb => decide); (case z920zc => exact rfl); (case z920zd => exact rfl); k_whole)
    | (refine' c_item ?z920zN ?z920zm ?z920za ?z920zb ?z920zc ?_ ?z920zz; (case z920zN => k_asm); (case z920zm => k_mem); (case z920za => decide); (case z920zb => decide); (case z920zc => exact rfl); (case z920zz => with_unfolding_all rfl); k_whole)))
  trivial
section
variable {w : World} {mean : ExcName → Option Value} {mg mb : PySem.Str → Option Value} {dp un : Nat} {gd : Option (List Code)} {cn : PySem.Str} {cs : Scope} {a₀ : Addr} {ccd : Value} {cl : List (PySem.Str × Addr)} {outer : List Env}
  {A₀ : Around} {base h₀ : Heap} {L : Addr} {m : PySem.Str → Option Value} {s : Shared} {news : List (Addr × Obj)} {Q : Flow → Shared → Prop} {E : Value → Shared → Prop}
theorem lines_CG_2 : True := by
  k_with "c les" =>
    ((with_reducible refine' sub_of ?z921zhc9 ?z921zhr9); (case z921zhc9 => with_reducible assumption); (case z921zhr9 => walk_at "c out"))
  k_with "c wo" =>
    first | ((with_reducible refine' Wo.skip ?z922za); (case z922za => walk_at "c wo")) | ((with_reducible refine' Wo.take ?z922za); (case z922za => walk_at "c wo")) | exact Wo.rest
  k_with "eval Name" =>
    (k_here; k_dflt (refine' nameX_L ?z923zF ?z923zv ?_ ?z923za ?z923zb; (case z923zF => k_asm); (case z923za => exact rfl); (case z923zb => exact rfl); (case z923zv => first | exact rfl | assumption); k_whole))
  k_with "FinE" =>
    ((unfold LCg.FinE); intro D' h' tk' F' N' o1'; clear o1'; (try simp only [List.nil_append, List.cons_append] at N'); (try dsimp only); (try k_fold))
  k_with "CompSrc" =>
    (k_here; k_dflt (refine LCg.CompSrc.ledger (by rfl) (by k_asm) (by k_asm) (by k_mem) (by first | size_fits | exact Nat.le_of_ble_eq_true rfl) ?_; intro g'; lcg_lit))
  k_with "exec Assign cons ListComp" =>
    (k_here; lcg_look; k_dflt (refine LCg.Assign_ListComp_U (F₀ := by k_asm) (by rfl) (by with_unfolding_all rfl) (by rfl) (by decide) (by rfl) (by decide) (by rfl) (by rfl) (by rfl) ?_); k_dflt lcg_toSrc)
  k_with "subscriptTail Name Constant ref int" =>
    (k_here; (with_reducible show wpAny _ _ (subscriptTail _ _ (Value.ref _) (Value.int _ _)) _ _ _); k_dflt (refine' c_item ?z927zN ?z927zm ?z927za ?z927zb ?z927zc ?_ ?z927zz; (case z927zN => k_asm); (case z927zm => k_mem); (case z927za => decide); (case z927zb => decide); (case z927zc => exact rfl); (case z927zz => with_unfolding_all rfl); k_whole))
  k_with "call ref" =>
    (k_here; (with_reducible show wpAny _ _ (call (Value.ref 522) [Value.ref _, Value.int _ _]) _ _ _); k_dflt (refine' c_draw ?z928zcB ?z928zcF ?z928zcX ?z928zcN ?z928zcT ?z928zcK ?z928zcD ?z928zcU ?z928zp0 ?z928zp1 ?z928zp2 ?z928zp3 ?z928zp4 ?z928zp5 ?z928zp6 ?z928zp7 ?_; (case z928zcB => k_asm); (case z928zcF => k_asm); (case z928zcX => k_asm); (case z928zcN => k_asm); (case z928zcT => k_asm); (case z928zcK => first | exact rfl | assumption); (case z928zcD => walk_at "c dp"); (case z928zcU => walk_at "c un"); (case z928zp0 => walk_at "c pen"); (case z928zp1 => k_mem); (case z928zp2 => assumption); (case z928zp3 => assumption); (case z928zp4 => first | assumption | decide | omega); (case z928zp5 => first | assumption | decide | omega); (case z928zp6 => omega); (case z928zp7 => omega); intro k' t' sp' t1' re' t2' h' tk' F' N' b1 b2 b3 b4; (try k_sweep); (try dsimp only); (try k_fold)))
  k_with "call ref" =>
    (k_here; (with_reducible show wpAny _ _ (call (Value.ref 536) [Value.ref _, _]) _ _ _); k_dflt (refine' c_formN ?z929zcB ?z929zcF ?z929zcX ?z929zcN ?z929zcT ?z929zcK ?z929zcD ?z929zcU ?z929zp0 ?z929zp1 ?z929zp2 ?_; (case z929zcB => k_asm); (case z929zcF => k_asm); (case z929zcX => k_asm); (case z929zcN => k_asm); (case z929zcT => k_asm); (case z929zcK => first | exact rfl | assumption); (case z929zcD => walk_at "c dp"); (case z929zcU => walk_at "c un"); (case z929zp0 => exact fun _ h9 => h9); (case z929zp1 => k_mem); (case z929zp2 => exact NumIs.mono (by with_reducible assumption) (by walk_at "c sub")); intro x' M' h' tk' F' N' l1' hf'; (try k_sweep); (try dsimp only); (try k_fold)))
  k_with "call ref" =>
    (k_here; (with_reducible show wpAny _ _ (call (Value.ref 543) [Value.ref _, Value.ref _]) _ _ _); k_dflt (refine' c_headN ?z930zcB ?z930zcF ?z930zcX ?z930zcN ?z930zcT ?z930zcK ?z930zcD ?z930zcU ?z930zp0 ?z930zp1 ?z930zp2 ?_; (case z930zcB => k_asm); (case z930zcF => k_asm); (case z930zcX => k_asm); (case z930zcN => k_asm); (case z930zcT => k_asm); (case z930zcK => first | exact rfl | assumption); (case z930zcD => walk_at "c dp"); (case z930zcU => walk_at "c un"); (case z930zp0 => exact fun _ h9 => h9); (case z930zp1 => exact FormIs.mono (by with_reducible assumption) (by walk_at "c sub")); (case z930zp2 => k_mem); intro x' M' h' tk' F' N' l1' hh'; (try k_sweep); (try dsimp only); (try k_fold)))
  k_with "call ref" =>
    (k_here; (with_reducible show wpAny _ _ (call (Value.ref 510) [Value.ref _, Value.ref _, Value.int _ _]) _ _ _); k_dflt (refine' c_placed3 ?z931zcB ?z931zcF ?z931zcX ?z931zcN ?z931zcT ?z931zcK ?z931zcD ?z931zcU ?z931zp0 ?z931zp1 ?z931zp2 ?z931zp3 ?z931zp4 ?z931zp5 ?z931zp6 ?z931zp7 ?z931zp8 ?_; (case z931zcB => k_asm); (case z931zcF => k_asm); (case z931zcX => k_asm); (case z931zcN => k_asm); (case z931zcT => k_asm); (case z931zcK => first | exact rfl | assumption); (case z931zcD => walk_at "c dp"); (case z931zcU => walk_at "c un"); (case z931zp0 => k_mem); (case z931zp1 => k_mem); (case z931zp2 => exact fun _ h9 => h9); (case z931zp3 => exact HeadIs.mono (by with_reducible assumption) (by walk_at "c sub")); (case z931zp4 => exact Draws.frame (by assumption)); (case z931zp5 => exact Draws.shift (by assumption) ⟨by omega, by omega⟩ ⟨by omega, by omega⟩); (case z931zp6 => exact Draws.mat (by assumption)); (case z931zp7 => exact Draws.gx (by assumption)); (case z931zp8 => exact Draws.gy (by assumption)); intro x' M' qa' qb' qc' qd' qe' qf' h' tk' F' N' l1' hM' hA'; (have hz9' := hM'); (obtain ⟨zdx', zk1', zk2', zk3', zk4', zk5', zk6', za', zda', zka1', zka2', zka3', zka4', zb', zdb', zkb1', zkb2', zkb3', zkb4', zc', zdc', zkc1', zkc2', zkc3', zkc4', zd', zdd', zkd1', zkd2', zkd3', zkd4', ze', zde', zke1', zke2', zke3', zke4', zf', zdf', zkf1', zkf2', zkf3', zkf4', y0', y1', y2', y3', y4', y5', y6', y7', y8', y9', y10', y11', y12', y13', y14', y15', y16', y17', y18', y19'⟩ := hz9'); (obtain ⟨e1', e2', e3', e4', e5', e6'⟩ := am_shift0 (by assumption) hA'); (subst e1'; subst e2'; subst e3'; subst e4'; subst e5'; subst e6'); clear hA'; (try k_sweep); (try dsimp only); (try k_fold)))
  k_with "call ref" =>
    (k_here; (with_reducible show wpAny _ _ (call (Value.ref 155) [Value.int _ _, Value.int 0 _]) _ _ _); k_dflt (refine' c_new0 ?z932zcB ?z932zcF ?z932zcX ?z932zcN ?z932zcT ?z932zcK ?z932zcD ?z932zcU ?z932zp0 ?_; (case z932zcB => k_asm); (case z932zcF => k_asm); (case z932zcX => k_asm); (case z932zcN => k_asm); (case z932zcT => k_asm); (case z932zcK => first | exact rfl | assumption); (case z932zcD => walk_at "c dp"); (case z932zcU => walk_at "c un"); (case z932zp0 => walk_at "c bnd"); intro x' d' q1' q2' q3' q4' h' tk' F' N' l1 l2 hq'; (try simp only [AllLt, and_true] at l1); (try k_lt2 l2); (try k_sweep); (try dsimp only); (try k_fold)))
  k_with "call ref" =>
    (k_here; (with_reducible show wpAny _ _ (call (Value.ref 82) [Value.ref _, Value.ref _]) _ _ _); k_dflt (refine' c_plus ?z933zcB ?z933zcF ?z933zcX ?z933zcN ?z933zcT ?z933zcK ?z933zcD ?z933zcU ?z933zp0 ?z933zp1 ?z933zp2 ?z933zp3 ?z933zp4 ?z933zp5 ?z933zp6 ?z933zp7 ?_; (case z933zcB => k_asm); (case z933zcF => k_asm); (case z933zcX => k_asm); (case z933zcN => k_asm); (case z933zcT => k_asm); (case z933zcK => first | exact rfl | assumption); (case z933zcD => walk_at "c dp"); (case z933zcU => walk_at "c un"); (case z933zp0 => k_mem); (case z933zp1 => k_mem); (case z933zp2 => with_reducible assumption); (case z933zp3 => k_mem); (case z933zp4 => k_mem); (case z933zp5 => with_reducible assumption); (case z933zp6 => first | walk_at "c le" | decide | omega); (case z933zp7 => first | walk_at "c le" | decide | omega); intro x' d' q1' q2' q3' q4' h' tk' F' N' l1 l2 hq'; (try simp only [AllLt, and_true] at l1); (try k_lt2 l2); (try k_sweep); (try dsimp only); (try k_fold)))
  k_with "call ref" =>
    (k_here; (with_reducible show wpAny _ _ (call (Value.ref 271) [Value.ref _]) _ _ _); k_dflt (refine' c_parts ?z934zcB ?z934zcF ?z934zcX ?z934zcN ?z934zcT ?z934zcK ?z934zcD ?z934zcU ?z934zp0 ?z934zp1 ?z934zp2 ?z934zp3 ?z934zp4 ?z934zp5 ?z934zp6 ?z934zp7 ?z934zp8 ?z934zp9 ?z934zp10 ?z934zp11 ?z934zp12 ?z934zp13 ?z934zp14 ?z934zp15 ?z934zp16 ?z934zp17 ?z934zp18 ?z934zp19 ?_; (case z934zcB => k_asm); (case z934zcF => k_asm); (case z934zcX => k_asm); (case z934zcN => k_asm); (case z934zcT => k_asm); (case z934zcK => first | exact rfl | assumption); (case z934zcD => walk_at "c dp"); (case z934zcU => walk_at "c un"); (case z934zp0 => k_mem); (case z934zp1 => k_mem); (case z934zp2 => k_mem); (case z934zp3 => k_mem); (case z934zp4 => with_reducible assumption); (case z934zp5 => k_mem); (case z934zp6 => k_mem); (case z934zp7 => with_reducible assumption); (case z934zp8 => k_mem); (case z934zp9 => k_mem); (case z934zp10 => with_reducible assumption); (case z934zp11 => k_mem); (case z934zp12 => k_mem); (case z934zp13 => with_reducible assumption); (case z934zp14 => k_mem); (case z934zp15 => k_mem); (case z934zp16 => with_reducible assumption); (case z934zp17 => k_mem); (case z934zp18 => k_mem); (case z934zp19 => with_reducible assumption); intro t' n9' h' tk' F' N' l1; (try simp only [AllLt, and_true] at l1); (try k_sweep); (try dsimp only); (try k_fold)))
  k_with "c bnd" =>
    first | with_reducible assumption | exact bnd3 (by omega)
  k_with "CompRest" =>
    (k_dflt first | (refine' c_restT1 ?z936zB ?z936zX ?z936zT ?z936zzd ?z936zzu ?z936zz0 ?z936zaa ?z936zba ?z936zca ?z936zab ?z936zbb ?z936zcb ?z936zac ?z936zbc ?z936zcc ?z936zad ?z936zbd ?z936zcd ?z936zae ?z936zbe ?z936zce ?z936zaf ?z936zbf ?z936zcf ?_; (case z936zB => k_asm); (case z936zX => k_asm); (case z936zT => k_asm); (case z936zzd => assumption); (case z936zzu => assumption); (case z936zz0 => k_mem); (case z936zaa => k_mem); (case z936zba => k_mem); (case z936zca => exact DecQ.mono (n' := 300) (by with_reducible assumption) (by omega)); (case z936zab => k_mem); (case z936zbb => k_mem); (case z936zcb => exact DecQ.mono (n' := 300) (by with_reducible assumption) (by omega)); (case z936zac => k_mem); (case z936zbc => k_mem); (case z936zcc => exact DecQ.mono (n' := 300) (by with_reducible assumption) (by omega)); (case z936zad => k_mem); (case z936zbd => k_mem); (case z936zcd => exact DecQ.mono (n' := 300) (by with_reducible assumption) (by omega)); (case z936zae => k_mem); (case z936zbe => k_mem); (case z936zce => exact DecQ.mono (n' := 300) (by with_reducible assumption) (by omega)); (case z936zaf => k_mem); (case z936zbf => k_mem); (case z936zcf => exact DecQ.mono (n' := 300) (by with_reducible assumption) (by omega)); intro ta' ia' ja' tb' ib' jb' tc' ic' jc' td' id' jd' te' ie' je' tf' if' jf'; (try k_fold)) | (refine' c_restT2 ?z936zB ?z936zX ?z936zT ?z936zzd ?z936zzu ?z936zz0 ?z936zaa ?z936zba ?z936zca ?z936zab ?z936zbb ?z936zcb ?z936zac ?z936zbc ?z936zcc ?z936zad ?z936zbd ?z936zcd ?z936zae ?z936zbe ?z936zce ?z936zaf ?z936zbf ?z936zcf ?_; (case z936zB => k_asm); (case z936zX => k_asm); (case z936zT => k_asm); (case z936zzd => assumption); (case z936zzu => assumption); (case z936zz0 => k_mem); (case z936zaa => k_mem); (case z936zba => k_mem); (case z936zca => exact DecQ.mono (n' := 300) (by with_reducible assumption) (by omega)); (case z936zab => k_mem); (case z936zbb => k_mem); (case z936zcb => exact DecQ.mono (n' := 300) (by with_reducible assumption) (by omega)); (case z936zac => k_mem); (case z936zbc => k_mem); (case z936zcc => exact DecQ.mono (n' := 300) (by with_reducible assumption) (by omega)); (case z936zad => k_mem); (case z936zbd => k_mem); (case z936zcd => exact DecQ.mono (n' := 300) (by with_reducible assumption) (by omega)); (case z936zae => k_mem); (case z936zbe => k_mem); (case z936zce => exact DecQ.mono (n' := 300) (by with_reducible assumption) (by omega)); (case z936zaf => k_mem); (case z936zbf => k_mem); (case z936zcf => exact DecQ.mono (n' := 300) (by with_reducible assumption) (by omega)); intro ta' ia' ja' tb' ib' jb' tc' ic' jc' td' id' jd' te' ie' je' tf' if' jf'; (try k_fold)))
  k_with "execs cons For cons" =>
    (k_here; k_dflt (refine' sI ?z937zB ?z937zF ?z937zX ?z937zT ?z937zcd ?z937zcu ?z937zN ?z937zho ?z937zhp ?z937zh2 ?z937zh3 ?z937zh4 ?z937ze1 ?z937ze2 ?z937zi ?z937zn9 ?z937zb0 ?z937zlt ?z937zup ?z937zb9 ?z937zp0 ?z937zp1 ?z937zp2 ?z937zp3 ?z937zp4 ?z937zp5 ?z937zp6 ?z937zp7 ?z937zp8 ?z937zp9 ?z937zp10 ?z937zp11 ?z937zp12 ?z937zp13 ?z937zp14 ?z937zp15 ?z937zp16 ?z937zret; (case z937zB => k_asm); (case z937zF => k_asm); (case z937zX => k_asm); (case z937zT => k_asm); (case z937zcd => assumption); (case z937zcu => assumption); (case z937zN => ((refine' news_base ?z937zx1 ?z937zx2 ?z937zx3 ?z937zx4 ?z937zx5 ?z937zx6 ?z937zx7); (case z937zx1 => with_reducible assumption); (case z937zx2 => k_asm); (case z937zx3 => k_mem); (case z937zx4 => k_mem); (case z937zx5 => k_mem); (case z937zx6 => k_mem); (case z937zx7 => walk_at "c sub"))); (case z937zh3 => k_mem); (case z937ze1 => assumption); (case z937zhp => k_mem); (case z937zh4 => k_mem); (case z937zh2 => k_mem); (case z937ze2 => assumption); (case z937zi => assumption); (case z937zn9 => assumption); (case z937zb0 => first | assumption | decide | omega); (case z937zb9 => first | assumption | decide | omega); (case z937zlt => first | with_reducible assumption | (refine ⟨?_, ?_, ?_, ?_, ?_⟩ <;> omega)); (case z937zho => walk_at "c out"); (case z937zup => walk_at "c up"); (case z937zp3 => first | exact rfl | assumption); (case z937zp4 => first | exact rfl | assumption); (case z937zp5 => first | exact rfl | assumption); (case z937zp7 => first | exact rfl | assumption); (case z937zp9 => first | exact rfl | assumption); (case z937zp11 => first | exact rfl | assumption); (case z937zp13 => first | exact rfl | assumption); (case z937zp16 => first | exact rfl | assumption); (case z937zp0 => assumption); (case z937zp1 => k_mem); (case z937zp2 => k_mem); (case z937zp6 => k_mem); (case z937zp8 => exact NumIs.mono (by assumption) (by walk_at "c sub")); (case z937zp10 => k_mem); (case z937zp12 => exact HeadIs.mono (by assumption) (by walk_at "c sub")); (case z937zp14 => exact MatIs.mono (by assumption) (by walk_at "c sub")); (case z937zp15 => assumption); (case z937zret => assumption)))
  trivial

theorem sG (B : Below A₀ base outer h₀) (F : Fr h₀ L s.heap m) (X : (Mine.hd0.heap_1 w.params).In h₀) (T : Top VW LS mean mg mb h₀) (hd : dp + 100 < recursionLimit) (hu : un + 1000 < cLine) {p c cp ct : Addr} {ocp oct : Obj} {sp re : Int} {t1 t2 : Tok} {np : Nat} {ys : List Value} {nc : Nat} {ns : List Int} {led out : List (Addr × Obj)} (N : News h₀ L s.heap led) (hout : LOut p ct cp c led out) (hpen : (p, penObj c sp t1 re t2 np) ∈ led) (hctm : (ct, oct) ∈ led) (hcpm : (cp, ocp) ∈ led) (hcm : (c, listOf ys.toArray nc) ∈ led) (hcp : ocp.data = .cell (some (.ref p))) (hct : oct.data = .cell none) (hi : IntsAre ys ns) (hn9 : ns.length ≤ 63) (h0 : 0 ≤ sp) (hlt : @LT.lt Nat _ cp ct ∧ @LT.lt Nat _ ct p ∧ @LT.lt Nat _ c p ∧ @Ne Nat ct c ∧ @Ne Nat cp c) (hup : ∀ q ∈ out, @LT.lt Nat _ p q.1) (h9 : sp ≤ 38) {fa fb fc fd wd hg ma mb mc md me mf ta tb tc td : Int} (hD : Draws fa fb fc fd wd hg ma mb mc md me mf ta tb tc td) {sh dsh stb str : Addr} {ks1 ks2 : Tok} (hsh : (sh, instObj 473 dsh) ∈ out) (hdsh : (dsh, shelfObj w stb str ks1 ks2) ∈ out) (m_shelf : m (PySem.Str.ofString "shelf") = some (.ref sh)) {twd : Tok} (m_wide : m (PySem.Str.ofString "wide") = some (.int wd twd)) {thg : Tok} (m_high : m (PySem.Str.ofString "high") = some (.int hg thg)) {lf : Addr} {nf : Nat} {u1 u2 u3 u4 : Tok} (hlf : (lf, listOf #[.int fa u1, .int fb u2, .int fc u3, .int fd u4] nf) ∈ out) (m_frame : m (PySem.Str.ofString "frame") = some (.ref lf)) {vn : Value} (hvn : NumIs out vn ma mb mc md me mf) (m_numbers : m (PySem.Str.ofString "numbers") = some (vn)) {lt : Addr} {nt : Nat} {v1 v2 v3 v4 : Tok} (hltg : (lt, listOf #[.int ta v1, .int tb v2, .int tc v3, .int td v4] nt) ∈ out) (m_target : m (PySem.Str.ofString "target") = some (.ref lt)) {hdA : Addr} (hHd : HeadIs w out hdA fa fb fc fd ma mb mc md me mf ta tb tc td) (m_head : m (PySem.Str.ofString "head") = some (.ref hdA)) {mx : Addr} {qa qb qc qd qe qf : Rat} (hMx : MatIs w out mx qa qb qc qd qe qf) (hAM : IsAM0 fa fb fc fd ma mb mc md me mf ta tb tc td qa qb qc qd qe qf) (m_m : m (PySem.Str.ofString "m") = some (.ref mx))  (ret : ∀ m' h' tk', Fr h₀ L h' m' → Q (.ret (.bool true)) { s with heap := h', toks := tk' }) : wpAny (model PySem.Challenge.rw_qz0079_01.row.prog w) (ktrTop dp un gd cn lawScope L a₀ ccd [(PySem.Str.ofString "times", ct), (PySem.Str.ofString "pen", cp)] outer) (execs (lawBody.drop 10) (envX cn lawScope L a₀ ccd [(PySem.Str.ofString "times", ct), (PySem.Str.ofString "pen", cp)])) Q (fun _ _ => False) s := by
  replace N := led4 N hpen hctm hcpm hcm hout
  have hlt5 : @LT.lt Nat _ cp p := Nat.lt_trans hlt.1 hlt.2.1
  have hup' : ∀ q ∈ out, q.1 ≠ p := fun q hq => Nat.ne_of_gt (hup q hq)
  have huc' : ∀ q ∈ out, q.1 ≠ ct := fun q hq => Nat.ne_of_gt (Nat.lt_trans hlt.2.1 (hup q hq))
  clear hout hpen hctm hcpm hcm
  have hBase := base_any p ct cp c out
  (have hz9' := hMx); (obtain ⟨zdx, zk1, zk2, zk3, zk4, zk5, zk6, za, zda, zka1, zka2, zka3, zka4, zb, zdb, zkb1, zkb2, zkb3, zkb4, zc, zdc, zkc1, zkc2, zkc3, zkc4, zd, zdd, zkd1, zkd2, zkd3, zkd4, ze, zde, zke1, zke2, zke3, zke4, zf, zdf, zkf1, zkf2, zkf3, zkf4, y0, y1, y2, y3, y4, y5, y6, y7, y8, y9, y10, y11, y12, y13, y14, y15, y16, y17, y18, y19⟩ := hz9')
  conv in List.drop _ lawBody => whnf
  conv in (occs := *) lawScope => whnf
  revert X; k_fill; intro X
  w_on
  (try k_fold)
  k_steps
  all_goals skip
end
end PartCG
section PartCF
theorem lines_CF_1 : True := by
  k_with_none
  k_with "c mem" =>
    first | ((with_reducible refine' mem_here ?z938zh9); (case z938zh9 => exact rfl)) | ((with_reducible refine' mem_nth 1 ?z938zh9); (case z938zh9 => exact rfl)) | ((with_reducible refine' mem_nth 2 ?z938zh9); (case z938zh9 => exact rfl)) | ((with_reducible refine' mem_nth 3 ?z938zh9); (case z938zh9 => exact rfl)) | ((with_reducible refine' mem_nth 4 ?z938zh9); (case z938zh9 => exact rfl)) | ((with_reducible refine' mem_nth 5 ?z938zh9); (case z938zh9 => exact rfl)) | ((with_reducible refine' mem_nth 6 ?z938zh9); (case z938zh9 => exact rfl)) | ((with_reducible refine' mem_nth 7 ?z938zh9); (case z938zh9 => exact rfl)) | ((with_reducible refine' mem_nth 8 ?z938zh9); (case z938zh9 => exact rfl)) | ((with_reducible refine' mem_nth 9 ?z938zh9); (case z938zh9 => exact rfl)) | ((with_reducible refine' mem_skip ?_); walk_at "c mem") | (with_reducible exact List.mem_append_left _ (by with_reducible assumption)) | ktr_member | ((with_reducible refine' List.mem_cons_of_mem _ ?_); walk_at "c mem") | ((with_reducible refine' List.mem_append_right _ ?_); walk_at "c mem")
  k_with "c room" =>
    with_reducible first | assumption | exact room1 (by assumption) rfl | exact room2 (by assumption) rfl | exact room3 (by assumption) rfl | exact room4 (by assumption) rfl
  k_with "c le" =>
    with_reducible first | assumption | exact Nat.le_trans (by assumption) (by decide)
  k_with "c lt1" =>
    with_reducible first | assumption | exact cj0 | exact cj1 | exact cj2 | exact cj3 | exact cj4 | exact cj5 | exact cj6 | exact cj7 | exact cj8 | exact cj9 | exact cj10 | exact cj11 | exact cj12 | exact cj13 | exact cj14 | exact cj15 | exact cj16 | exact cj17 | exact cj18 | exact cj19 | exact cj20 | exact cj21 | exact cj22 | exact cj23 | exact And.right (by with_reducible assumption) | exact And.right (And.right (by with_reducible assumption)) | exact And.right (And.right (And.right (by with_reducible assumption))) | exact And.right (And.right (And.right (And.right (by with_reducible assumption))))
  k_with "c lt2" =>
    ((with_reducible refine' Nat.lt_trans ?z942za9 ?z942zb9); (case z942zb9 => with_reducible assumption); (case z942za9 => walk_at "c lt1"))
  k_with "c lt" =>
    first | walk_at "c lt1" | walk_at "c lt2"
  k_with "c up3" =>
    with_reducible first | exact abv3 (by assumption) | exact abv3_1 (by assumption) | exact abv3_2 (by assumption) | exact abv3_3 (by assumption) | exact abv3_4 (by assumption) | (refine' Abv3.tr ?z944za9 ?z944zb9; (case z944za9 => assumption); (case z944zb9 => walk_at "c up3"))
  k_with "c ne" =>
    first | with_reducible (first | assumption | exact And.left (by assumption) | exact Ne.symm (And.left (by assumption)) | exact And.left (And.right (by assumption)) | exact Ne.symm (And.left (And.right (by assumption))) | exact And.right (And.right (by assumption)) | exact Ne.symm (And.right (And.right (by assumption))) | exact neq_lt (by assumption) | exact neq_gt (by assumption) | exact nl0 | exact nr0 | exact nl1 | exact nr1 | exact nl2 | exact nr2 | exact nl3 | exact nr3 | exact nl4 | exact nr4 | exact nl5 | exact nr5 | exact nl6 | exact nr6 | exact nl7 | exact nr7 | exact nl8 | exact nr8 | exact nl9 | exact nr9 | exact nl10 | exact nr10 | exact nl11 | exact nr11 | exact nl12 | exact nr12 | exact nl13 | exact nr13 | exact nl14 | exact nr14 | exact nl15 | exact nr15 | exact nl16 | exact nr16 | exact nl17 | exact nr17 | exact nl18 | exact nr18 | exact nl19 | exact nr19 | exact nl20 | exact nr20 | exact nl21 | exact nr21 | exact nl22 | exact nr22 | exact nl23 | exact nr23) | ((with_reducible refine' neq_lt ?z945zz9); (case z945zz9 => walk_at "c lt2")) | ((with_reducible refine' neq_gt ?z945zz9); (case z945zz9 => walk_at "c lt2")) | ((try dsimp only); omega)
  k_with "c dp" =>
    ((try simp only [depth_under_make, depth_under_kw, depth_in1, depth_deeper, depth_caller]); (try dsimp only [ktrTop]); first | walk_at "c room" | omega | decide)
  k_with "c un" =>
    ((try simp only [units_make, units_in1, units_deeper, Around.mark_units, units_caller]); (try dsimp only [ktrTop]); first | walk_at "c room" | omega | decide)
  k_with "c in" =>
    first | assumption | exact List.mem_append_left _ (by walk_at "c in") | exact List.mem_append_right _ (by walk_at "c in") | exact List.mem_cons_of_mem _ (by walk_at "c in")
  k_with "c sub" =>
    first | (refine List.forall_mem_cons.mpr ⟨?z949za, ?z949zb⟩; (case z949za => walk_at "c mem"); (case z949zb => walk_at "c sub")) | (refine List.forall_mem_append.mpr ⟨?z949za, ?z949zb⟩; (case z949za => walk_at "c sub"); (case z949zb => walk_at "c sub")) | exact List.forall_mem_nil _ | (intro p9 h9; walk_at "c in")
  k_with "c out" =>
    first | ((with_reducible refine' LOut.skip ?z950za ?z950zb); (case z950za => first | exact Or.inl rfl | exact Or.inr (Or.inl rfl) | exact Or.inr (Or.inr (Or.inl rfl)) | exact Or.inr (Or.inr (Or.inr rfl))); (case z950zb => walk_at "c out")) | ((with_reducible refine' LOut.take ?z950za); (case z950za => walk_at "c out")) | ((with_reducible refine' LOut.app ?z950za); (case z950za => walk_at "c out")) | exact LOut.rest
  k_with "c up" =>
    first | (refine List.forall_mem_cons.mpr ⟨?z951za, ?z951zb⟩; (case z951za => ((try dsimp only); first | walk_at "c lt" | exact (by assumption : ∀ q ∈ _, q.1 < _) _ (by walk_at "c mem") | omega)); (case z951zb => walk_at "c up")) | (refine List.forall_mem_append.mpr ⟨?z951za, ?z951zb⟩; (case z951za => exact fresh_up (by assumption) (by walk_at "c mem")); (case z951zb => walk_at "c up")) | exact List.forall_mem_nil _ | assumption
  k_with "c pen" =>
    first | exact PenOut.done (by walk_at "c off") | (refine' PenOut.take ?z952za ?z952zb; (case z952za => k_ne); (case z952zb => walk_at "c pen"))
  k_with "c off" =>
    first | assumption | exact List.forall_mem_nil _ | (refine List.forall_mem_cons.mpr ⟨?z953za, ?z953zb⟩; (case z953za => k_ne); (case z953zb => walk_at "c off"))
  k_with "c bnd" =>
    with_reducible (first | assumption | exact Bnd.pow _ | (refine' Bnd.fdiv ?z954za; (case z954za => walk_at "c bnd")) | (exact Bnd.mul (by walk_at "c bnd") (by walk_at "c bnd")) | (exact Bnd.add1 (by walk_at "c bnd") (by walk_at "c bnd")) | (exact Bnd.sub1 (by walk_at "c bnd") (by walk_at "c bnd")) | (exact Bnd.add (by walk_at "c bnd") (by walk_at "c bnd")) | (exact Bnd.sub (by walk_at "c bnd") (by walk_at "c bnd")))
  k_with "c ar" =>
    first | assumption | decide | omega | (split <;> omega)
  k_with "c mul" =>
    exact mulOk_bnd (by walk_at "c bnd") (by walk_at "c bnd") (by walk_at "c ar") (by walk_at "c ar")
  k_with "binaryOp Pow int int" =>
    ((with_reducible refine pow_int_small ?z957zkb1 ?z957zkb2 ?z957zkb3 ?_); (case z957zkb1 => walk_at "c ar"); (case z957zkb2 => walk_at "c ar"); (case z957zkb3 => decide))
  k_with "call ref" =>
    (k_here; (with_reducible show wpAny _ _ (call (Prod.fst _) (_ ++ _)) _ _ _); dsimp only [List.nil_append, List.cons_append])
  k_with "subscriptTail" =>
    (k_here; (with_reducible show wpAny _ _ (subscriptTail _ _ (Value.ref _) (Value.int _ _)) _ _ _); k_dflt (first
    | (refine' item_tupleT ?z959zt ?z959za ?z959zb ?z959zc ?z959zd ?_; (case z959zt => exact News.isTup (by k_asm) (by k_mem)); (case z959za => decide); (case z959zb => decide); (case z959zc => exact rfl); (case z959zd => exact rfl); k_whole)
    | (refine' c_item ?z959zN ?z959zm ?z959za ?z959zb ?z959zc ?_ ?z959zz; (case z959zN => k_asm); (case z959zm => k_mem); (case z959za => decide); (case z959zb => decide); (case z959zc => exact rfl); (case z959zz => with_unfolding_all rfl); k_whole)))
  k_with "subscriptTail Name Constant ref int" =>
    (k_here; (with_reducible show wpAny _ _ (subscriptTail _ _ (Value.ref _) (Value.int _ _)) _ _ _); k_dflt (first
    | (refine' item_tupleT ?z960zt ?z960za ?z960zb ?z960zc ?z960zd ?_; (case z960zt => exact News.isTup (by k_asm) (by k_mem)); (case z960za => decide); (case z960zb => decide); (case z960zc => exact rfl); (case z960zd => exact rfl); k_whole)
    | (refine' c_item ?z960zN ?z960zm ?z960za ?z960zb ?z960zc ?_ ?z960zz; (case z960zN => k_asm); (case z960zm => k_mem); (case z960za => decide); (case z960zb => decide); (case z960zc => exact rfl); (case z960zz => with_unfolding_all rfl); k_whole)))
  trivial
section
variable {w : World} {mean : ExcName → Option Value} {mg mb : PySem.Str → Option Value} {dp un : Nat} {gd : Option (List Code)} {cn : PySem.Str} {cs : Scope} {a₀ : Addr} {ccd : Value} {cl : List (PySem.Str × Addr)} {outer : List Env}
  {A₀ : Around} {base h₀ : Heap} {L : Addr} {m : PySem.Str → Option Value} {s : Shared} {news : List (Addr × Obj)} {Q : Flow → Shared → Prop} {E : Value → Shared → Prop}
theorem lines_CF_2 : True := by
  k_with "c les" =>
    ((with_reducible refine' sub_of ?z961zhc9 ?z961zhr9); (case z961zhc9 => with_reducible assumption); (case z961zhr9 => walk_at "c out"))
  k_with "c wo" =>
    first | ((with_reducible refine' Wo.skip ?z962za); (case z962za => walk_at "c wo")) | ((with_reducible refine' Wo.take ?z962za); (case z962za => walk_at "c wo")) | exact Wo.rest
  k_with "eval Name" =>
    (k_here; k_dflt (refine' nameX_L ?z963zF ?z963zv ?_ ?z963za ?z963zb; (case z963zF => k_asm); (case z963za => exact rfl); (case z963zb => exact rfl); (case z963zv => first | exact rfl | assumption); k_whole))
  k_with "call ref" =>
    (k_here; (with_reducible show wpAny _ _ (call (Value.ref 510) [Value.ref _, Value.ref _, Value.int _ _]) _ _ _); k_dflt (refine' c_placed3 ?z964zcB ?z964zcF ?z964zcX ?z964zcN ?z964zcT ?z964zcK ?z964zcD ?z964zcU ?z964zp0 ?z964zp1 ?z964zp2 ?z964zp3 ?z964zp4 ?z964zp5 ?z964zp6 ?z964zp7 ?z964zp8 ?_; (case z964zcB => k_asm); (case z964zcF => k_asm); (case z964zcX => k_asm); (case z964zcN => k_asm); (case z964zcT => k_asm); (case z964zcK => first | exact rfl | assumption); (case z964zcD => walk_at "c dp"); (case z964zcU => walk_at "c un"); (case z964zp0 => k_mem); (case z964zp1 => k_mem); (case z964zp2 => exact fun _ h9 => h9); (case z964zp3 => exact HeadIs.mono (by with_reducible assumption) (by walk_at "c sub")); (case z964zp4 => exact Draws.frame (by assumption)); (case z964zp5 => exact Draws.target (by assumption)); (case z964zp6 => exact Draws.mat (by assumption)); (case z964zp7 => exact Draws.gx (by assumption)); (case z964zp8 => exact Draws.gy (by assumption)); intro x' M' qa' qb' qc' qd' qe' qf' h' tk' F' N' l1' hM' hA'; (have hA0' := IsAM0.mk hA'); clear hA'; (try k_sweep); (try dsimp only); (try k_fold)))
  k_with "execs cons Assign cons" =>
    (k_here; (with_reducible show wpAny _ _ (execs (PySem.Stmt.Assign _ _ ⟨344, 4, 344, 61⟩ :: _) _) _ _ _); k_dflt (refine' sG ?z965zB ?z965zF ?z965zX ?z965zT ?z965zcd ?z965zcu ?z965zN ?z965zho ?z965zhp ?z965zh2 ?z965zh3 ?z965zh4 ?z965ze1 ?z965ze2 ?z965zi ?z965zn9 ?z965zb0 ?z965zlt ?z965zup ?z965zb9 ?z965zp0 ?z965zp1 ?z965zp2 ?z965zp3 ?z965zp4 ?z965zp5 ?z965zp6 ?z965zp7 ?z965zp8 ?z965zp9 ?z965zp10 ?z965zp11 ?z965zp12 ?z965zp13 ?z965zp14 ?z965zp15 ?z965zp16 ?z965zret; (case z965zB => k_asm); (case z965zF => k_asm); (case z965zX => k_asm); (case z965zT => k_asm); (case z965zcd => assumption); (case z965zcu => assumption); (case z965zN => k_asm); (case z965zh3 => k_mem); (case z965ze1 => assumption); (case z965zhp => k_mem); (case z965zh4 => k_mem); (case z965zh2 => k_mem); (case z965ze2 => assumption); (case z965zi => assumption); (case z965zn9 => assumption); (case z965zb0 => first | assumption | decide | omega); (case z965zb9 => first | assumption | decide | omega); (case z965zlt => first | with_reducible assumption | (refine ⟨?_, ?_, ?_, ?_, ?_⟩ <;> omega)); (case z965zho => walk_at "c out"); (case z965zup => walk_at "c up"); (case z965zp3 => first | exact rfl | assumption); (case z965zp4 => first | exact rfl | assumption); (case z965zp5 => first | exact rfl | assumption); (case z965zp7 => first | exact rfl | assumption); (case z965zp9 => first | exact rfl | assumption); (case z965zp11 => first | exact rfl | assumption); (case z965zp13 => first | exact rfl | assumption); (case z965zp16 => first | exact rfl | assumption); (case z965zp0 => assumption); (case z965zp1 => k_mem); (case z965zp2 => k_mem); (case z965zp6 => k_mem); (case z965zp8 => exact NumIs.mono (by assumption) (by walk_at "c sub")); (case z965zp10 => k_mem); (case z965zp12 => exact HeadIs.mono (by assumption) (by walk_at "c sub")); (case z965zp14 => exact MatIs.mono (by assumption) (by walk_at "c sub")); (case z965zp15 => assumption); (case z965zret => assumption)))
  trivial

theorem sF (B : Below A₀ base outer h₀) (F : Fr h₀ L s.heap m) (X : (Mine.hd0.heap_1 w.params).In h₀) (T : Top VW LS mean mg mb h₀) (hd : dp + 100 < recursionLimit) (hu : un + 1000 < cLine) {p c cp ct : Addr} {ocp oct : Obj} {sp re : Int} {t1 t2 : Tok} {np : Nat} {ys : List Value} {nc : Nat} {ns : List Int} {led out : List (Addr × Obj)} (N : News h₀ L s.heap led) (hout : LOut p ct cp c led out) (hpen : (p, penObj c sp t1 re t2 np) ∈ led) (hctm : (ct, oct) ∈ led) (hcpm : (cp, ocp) ∈ led) (hcm : (c, listOf ys.toArray nc) ∈ led) (hcp : ocp.data = .cell (some (.ref p))) (hct : oct.data = .cell none) (hi : IntsAre ys ns) (hn9 : ns.length ≤ 63) (h0 : 0 ≤ sp) (hlt : @LT.lt Nat _ cp ct ∧ @LT.lt Nat _ ct p ∧ @LT.lt Nat _ c p ∧ @Ne Nat ct c ∧ @Ne Nat cp c) (hup : ∀ q ∈ out, @LT.lt Nat _ p q.1) (h9 : sp ≤ 38) {fa fb fc fd wd hg ma mb mc md me mf ta tb tc td : Int} (hD : Draws fa fb fc fd wd hg ma mb mc md me mf ta tb tc td) {sh dsh stb str : Addr} {ks1 ks2 : Tok} (hsh : (sh, instObj 473 dsh) ∈ out) (hdsh : (dsh, shelfObj w stb str ks1 ks2) ∈ out) (m_shelf : m (PySem.Str.ofString "shelf") = some (.ref sh)) {twd : Tok} (m_wide : m (PySem.Str.ofString "wide") = some (.int wd twd)) {thg : Tok} (m_high : m (PySem.Str.ofString "high") = some (.int hg thg)) {lf : Addr} {nf : Nat} {u1 u2 u3 u4 : Tok} (hlf : (lf, listOf #[.int fa u1, .int fb u2, .int fc u3, .int fd u4] nf) ∈ out) (m_frame : m (PySem.Str.ofString "frame") = some (.ref lf)) {vn : Value} (hvn : NumIs out vn ma mb mc md me mf) (m_numbers : m (PySem.Str.ofString "numbers") = some (vn)) {lt : Addr} {nt : Nat} {v1 v2 v3 v4 : Tok} (hltg : (lt, listOf #[.int ta v1, .int tb v2, .int tc v3, .int td v4] nt) ∈ out) (m_target : m (PySem.Str.ofString "target") = some (.ref lt)) {hdA : Addr} (hHd : HeadIs w out hdA fa fb fc fd ma mb mc md me mf ta tb tc td) (m_head : m (PySem.Str.ofString "head") = some (.ref hdA))  (ret : ∀ m' h' tk', Fr h₀ L h' m' → Q (.ret (.bool true)) { s with heap := h', toks := tk' }) : wpAny (model PySem.Challenge.rw_qz0079_01.row.prog w) (ktrTop dp un gd cn lawScope L a₀ ccd [(PySem.Str.ofString "times", ct), (PySem.Str.ofString "pen", cp)] outer) (execs (lawBody.drop 9) (envX cn lawScope L a₀ ccd [(PySem.Str.ofString "times", ct), (PySem.Str.ofString "pen", cp)])) Q (fun _ _ => False) s := by
  replace N := led4 N hpen hctm hcpm hcm hout
  have hlt5 : @LT.lt Nat _ cp p := Nat.lt_trans hlt.1 hlt.2.1
  have hup' : ∀ q ∈ out, q.1 ≠ p := fun q hq => Nat.ne_of_gt (hup q hq)
  have huc' : ∀ q ∈ out, q.1 ≠ ct := fun q hq => Nat.ne_of_gt (Nat.lt_trans hlt.2.1 (hup q hq))
  clear hout hpen hctm hcpm hcm
  conv in List.drop _ lawBody => whnf
  conv in (occs := *) lawScope => whnf
  revert X; k_fill; intro X
  w_on
  (try k_fold)
  k_steps
end
end PartCF
section PartCE
theorem lines_CE_1 : True := by
  k_with_none
  k_with "c mem" =>
    first | ((with_reducible refine' mem_here ?z966zh9); (case z966zh9 => exact rfl)) | ((with_reducible refine' mem_nth 1 ?z966zh9); (case z966zh9 => exact rfl)) | ((with_reducible refine' mem_nth 2 ?z966zh9); (case z966zh9 => exact rfl)) | ((with_reducible refine' mem_nth 3 ?z966zh9); (case z966zh9 => exact rfl)) | ((with_reducible refine' mem_nth 4 ?z966zh9); (case z966zh9 => exact rfl)) | ((with_reducible refine' mem_nth 5 ?z966zh9); (case z966zh9 => exact rfl)) | ((with_reducible refine' mem_nth 6 ?z966zh9); (case z966zh9 => exact rfl)) | ((with_reducible refine' mem_nth 7 ?z966zh9); (case z966zh9 => exact rfl)) | ((with_reducible refine' mem_nth 8 ?z966zh9); (case z966zh9 => exact rfl)) | ((with_reducible refine' mem_nth 9 ?z966zh9); (case z966zh9 => exact rfl)) | ((with_reducible refine' mem_skip ?_); walk_at "c mem") | (with_reducible exact List.mem_append_left _ (by with_reducible assumption)) | ktr_member | ((with_reducible refine' List.mem_cons_of_mem _ ?_); walk_at "c mem") | ((with_reducible refine' List.mem_append_right _ ?_); walk_at "c mem")
  k_with "c room" =>
    with_reducible first | assumption | exact room1 (by assumption) rfl | exact room2 (by assumption) rfl | exact room3 (by assumption) rfl | exact room4 (by assumption) rfl
  k_with "c le" =>
    with_reducible first | assumption | exact Nat.le_trans (by assumption) (by decide)
  k_with "c lt1" =>
    with_reducible first | assumption | exact cj0 | exact cj1 | exact cj2 | exact cj3 | exact cj4 | exact cj5 | exact cj6 | exact cj7 | exact cj8 | exact cj9 | exact cj10 | exact cj11 | exact cj12 | exact cj13 | exact cj14 | exact cj15 | exact cj16 | exact cj17 | exact cj18 | exact cj19 | exact cj20 | exact cj21 | exact cj22 | exact cj23 | exact And.right (by with_reducible assumption) | exact And.right (And.right (by with_reducible assumption)) | exact And.right (And.right (And.right (by with_reducible assumption))) | exact And.right (And.right (And.right (And.right (by with_reducible assumption))))
  k_with "c lt2" =>
    ((with_reducible refine' Nat.lt_trans ?z970za9 ?z970zb9); (case z970zb9 => with_reducible assumption); (case z970za9 => walk_at "c lt1"))
  k_with "c lt" =>
    first | walk_at "c lt1" | walk_at "c lt2"
  k_with "c up3" =>
    with_reducible first | exact abv3 (by assumption) | exact abv3_1 (by assumption) | exact abv3_2 (by assumption) | exact abv3_3 (by assumption) | exact abv3_4 (by assumption) | (refine' Abv3.tr ?z972za9 ?z972zb9; (case z972za9 => assumption); (case z972zb9 => walk_at "c up3"))
  k_with "c ne" =>
    first | with_reducible (first | assumption | exact And.left (by assumption) | exact Ne.symm (And.left (by assumption)) | exact And.left (And.right (by assumption)) | exact Ne.symm (And.left (And.right (by assumption))) | exact And.right (And.right (by assumption)) | exact Ne.symm (And.right (And.right (by assumption))) | exact neq_lt (by assumption) | exact neq_gt (by assumption) | exact nl0 | exact nr0 | exact nl1 | exact nr1 | exact nl2 | exact nr2 | exact nl3 | exact nr3 | exact nl4 | exact nr4 | exact nl5 | exact nr5 | exact nl6 | exact nr6 | exact nl7 | exact nr7 | exact nl8 | exact nr8 | exact nl9 | exact nr9 | exact nl10 | exact nr10 | exact nl11 | exact nr11 | exact nl12 | exact nr12 | exact nl13 | exact nr13 | exact nl14 | exact nr14 | exact nl15 | exact nr15 | exact nl16 | exact nr16 | exact nl17 | exact nr17 | exact nl18 | exact nr18 | exact nl19 | exact nr19 | exact nl20 | exact nr20 | exact nl21 | exact nr21 | exact nl22 | exact nr22 | exact nl23 | exact nr23) | ((with_reducible refine' neq_lt ?z973zz9); (case z973zz9 => walk_at "c lt2")) | ((with_reducible refine' neq_gt ?z973zz9); (case z973zz9 => walk_at "c lt2")) | ((try dsimp only); omega)
  k_with "c dp" =>
    ((try simp only [depth_under_make, depth_under_kw, depth_in1, depth_deeper, depth_caller]); (try dsimp only [ktrTop]); first | walk_at "c room" | omega | decide)
  k_with "c un" =>
    ((try simp only [units_make, units_in1, units_deeper, Around.mark_units, units_caller]); (try dsimp only [ktrTop]); first | walk_at "c room" | omega | decide)
  k_with "c in" =>
    first | assumption | exact List.mem_append_left _ (by walk_at "c in") | exact List.mem_append_right _ (by walk_at "c in") | exact List.mem_cons_of_mem _ (by walk_at "c in")
  k_with "c sub" =>
    first | (refine List.forall_mem_cons.mpr ⟨?z977za, ?z977zb⟩; (case z977za => walk_at "c mem"); (case z977zb => walk_at "c sub")) | (refine List.forall_mem_append.mpr ⟨?z977za, ?z977zb⟩; (case z977za => walk_at "c sub"); (case z977zb => walk_at "c sub")) | exact List.forall_mem_nil _ | (intro p9 h9; walk_at "c in")
  k_with "c out" =>
    first | ((with_reducible refine' LOut.skip ?z978za ?z978zb); (case z978za => first | exact Or.inl rfl | exact Or.inr (Or.inl rfl) | exact Or.inr (Or.inr (Or.inl rfl)) | exact Or.inr (Or.inr (Or.inr rfl))); (case z978zb => walk_at "c out")) | ((with_reducible refine' LOut.take ?z978za); (case z978za => walk_at "c out")) | ((with_reducible refine' LOut.app ?z978za); (case z978za => walk_at "c out")) | exact LOut.rest
  k_with "c up" =>
    first | (refine List.forall_mem_cons.mpr ⟨?z979za, ?z979zb⟩; (case z979za => ((try dsimp only); first | walk_at "c lt" | exact (by assumption : ∀ q ∈ _, q.1 < _) _ (by walk_at "c mem") | omega)); (case z979zb => walk_at "c up")) | (refine List.forall_mem_append.mpr ⟨?z979za, ?z979zb⟩; (case z979za => exact fresh_up (by assumption) (by walk_at "c mem")); (case z979zb => walk_at "c up")) | exact List.forall_mem_nil _ | assumption
  k_with "c pen" =>
    first | exact PenOut.done (by walk_at "c off") | (refine' PenOut.take ?z980za ?z980zb; (case z980za => k_ne); (case z980zb => walk_at "c pen"))
  k_with "c off" =>
    first | assumption | exact List.forall_mem_nil _ | (refine List.forall_mem_cons.mpr ⟨?z981za, ?z981zb⟩; (case z981za => k_ne); (case z981zb => walk_at "c off"))
  k_with "c bnd" =>
    with_reducible (first | assumption | exact Bnd.pow _ | (refine' Bnd.fdiv ?z982za; (case z982za => walk_at "c bnd")) | (exact Bnd.mul (by walk_at "c bnd") (by walk_at "c bnd")) | (exact Bnd.add1 (by walk_at "c bnd") (by walk_at "c bnd")) | (exact Bnd.sub1 (by walk_at "c bnd") (by walk_at "c bnd")) | (exact Bnd.add (by walk_at "c bnd") (by walk_at "c bnd")) | (exact Bnd.sub (by walk_at "c bnd") (by walk_at "c bnd")))
  k_with "c ar" =>
    first | assumption | decide | omega | (split <;> omega)
  k_with "c mul" =>
    exact mulOk_bnd (by walk_at "c bnd") (by walk_at "c bnd") (by walk_at "c ar") (by walk_at "c ar")
  k_with "binaryOp Pow int int" =>
    ((with_reducible refine pow_int_small ?z985zkb1 ?z985zkb2 ?z985zkb3 ?_); (case z985zkb1 => walk_at "c ar"); (case z985zkb2 => walk_at "c ar"); (case z985zkb3 => decide))
  k_with "call ref" =>
    (k_here; (with_reducible show wpAny _ _ (call (Prod.fst _) (_ ++ _)) _ _ _); dsimp only [List.nil_append, List.cons_append])
  k_with "subscriptTail" =>
    (k_here; (with_reducible show wpAny _ _ (subscriptTail _ _ (Value.ref _) (Value.int _ _)) _ _ _); k_dflt (first
    | (refine' item_tupleT ?z987zt ?z987za ?z987zb ?z987zc ?z987zd ?_; (case z987zt => exact News.isTup (by k_asm) (by k_mem)); (case z987za => decide); (case z987zb => decide); (case z987zc => exact rfl); (case z987zd => exact rfl); k_whole)
    | (refine' c_item ?z987zN ?z987zm ?z987za ?z987zb ?z987zc ?_ ?z987zz; (case z987zN => k_asm); (case z987zm => k_mem); (case z987za => decide); (case z987zb => decide); (case z987zc => exact rfl); (case z987zz => with_unfolding_all rfl); k_whole)))
  k_with "subscriptTail Name Constant ref int" =>
    (k_here; (with_reducible show wpAny _ _ (subscriptTail _ _ (Value.ref _) (Value.int _ _)) _ _ _); k_dflt (first
    | (refine' item_tupleT ?z988zt ?z988za ?z988zb ?z988zc ?z988zd ?_; (case z988zt => exact News.isTup (by k_asm) (by k_mem)); (case z988za => decide); (case z988zb => decide); (case z988zc => exact rfl); (case z988zd => exact rfl); k_whole)
    | (refine' c_item ?z988zN ?z988zm ?z988za ?z988zb ?z988zc ?_ ?z988zz; (case z988zN => k_asm); (case z988zm => k_mem); (case z988za => decide); (case z988zb => decide); (case z988zc => exact rfl); (case z988zz => with_unfolding_all rfl); k_whole)))
  trivial
section
variable {w : World} {mean : ExcName → Option Value} {mg mb : PySem.Str → Option Value} {dp un : Nat} {gd : Option (List Code)} {cn : PySem.Str} {cs : Scope} {a₀ : Addr} {ccd : Value} {cl : List (PySem.Str × Addr)} {outer : List Env}
  {A₀ : Around} {base h₀ : Heap} {L : Addr} {m : PySem.Str → Option Value} {s : Shared} {news : List (Addr × Obj)} {Q : Flow → Shared → Prop} {E : Value → Shared → Prop}
theorem lines_CE_2 : True := by
  k_with "c les" =>
    ((with_reducible refine' sub_of ?z989zhc9 ?z989zhr9); (case z989zhc9 => with_reducible assumption); (case z989zhr9 => walk_at "c out"))
  k_with "c wo" =>
    first | ((with_reducible refine' Wo.skip ?z990za); (case z990za => walk_at "c wo")) | ((with_reducible refine' Wo.take ?z990za); (case z990za => walk_at "c wo")) | exact Wo.rest
  k_with "eval Name" =>
    (k_here; k_dflt (refine' nameX_L ?z991zF ?z991zv ?_ ?z991za ?z991zb; (case z991zF => k_asm); (case z991za => exact rfl); (case z991zb => exact rfl); (case z991zv => first | exact rfl | assumption); k_whole))
  k_with "call ref" =>
    (k_here; (with_reducible show wpAny _ _ (call (Value.ref 536) [Value.ref _, _]) _ _ _); k_dflt (refine' c_formN ?z992zcB ?z992zcF ?z992zcX ?z992zcN ?z992zcT ?z992zcK ?z992zcD ?z992zcU ?z992zp0 ?z992zp1 ?z992zp2 ?_; (case z992zcB => k_asm); (case z992zcF => k_asm); (case z992zcX => k_asm); (case z992zcN => k_asm); (case z992zcT => k_asm); (case z992zcK => first | exact rfl | assumption); (case z992zcD => walk_at "c dp"); (case z992zcU => walk_at "c un"); (case z992zp0 => walk_at "c les"); (case z992zp1 => k_mem); (case z992zp2 => exact NumIs.mono (by with_reducible assumption) (by walk_at "c sub")); intro x' M' h' tk' F' N' l1' hf'; (try k_sweep); (try dsimp only); (try k_fold)))
  k_with "call ref" =>
    (k_here; (with_reducible show wpAny _ _ (call (Value.ref 543) [Value.ref _, Value.ref _]) _ _ _); k_dflt (refine' c_headN ?z993zcB ?z993zcF ?z993zcX ?z993zcN ?z993zcT ?z993zcK ?z993zcD ?z993zcU ?z993zp0 ?z993zp1 ?z993zp2 ?_; (case z993zcB => k_asm); (case z993zcF => k_asm); (case z993zcX => k_asm); (case z993zcN => k_asm); (case z993zcT => k_asm); (case z993zcK => first | exact rfl | assumption); (case z993zcD => walk_at "c dp"); (case z993zcU => walk_at "c un"); (case z993zp0 => walk_at "c les"); (case z993zp1 => exact FormIs.mono (by with_reducible assumption) (by walk_at "c sub")); (case z993zp2 => k_mem); intro x' M' h' tk' F' N' l1' hh'; (try k_sweep); (try dsimp only); (try k_fold)))
  k_with "execs cons Assign cons" =>
    (k_here; (with_reducible show wpAny _ _ (execs (PySem.Stmt.Assign _ _ ⟨343, 4, 343, 41⟩ :: _) _) _ _ _); k_dflt (refine' sF ?z994zB ?z994zF ?z994zX ?z994zT ?z994zcd ?z994zcu ?z994zN ?z994zho ?z994zhp ?z994zh2 ?z994zh3 ?z994zh4 ?z994ze1 ?z994ze2 ?z994zi ?z994zn9 ?z994zb0 ?z994zlt ?z994zup ?z994zb9 ?z994zp0 ?z994zp1 ?z994zp2 ?z994zp3 ?z994zp4 ?z994zp5 ?z994zp6 ?z994zp7 ?z994zp8 ?z994zp9 ?z994zp10 ?z994zp11 ?z994zp12 ?z994zp13 ?z994zret; (case z994zB => k_asm); (case z994zF => k_asm); (case z994zX => k_asm); (case z994zT => k_asm); (case z994zcd => assumption); (case z994zcu => assumption); (case z994zN => k_asm); (case z994zh3 => k_mem); (case z994ze1 => assumption); (case z994zhp => k_mem); (case z994zh4 => k_mem); (case z994zh2 => k_mem); (case z994ze2 => assumption); (case z994zi => assumption); (case z994zn9 => assumption); (case z994zb0 => first | assumption | decide | omega); (case z994zb9 => first | assumption | decide | omega); (case z994zlt => first | with_reducible assumption | (refine ⟨?_, ?_, ?_, ?_, ?_⟩ <;> omega)); (case z994zho => walk_at "c out"); (case z994zup => walk_at "c up"); (case z994zp3 => first | exact rfl | assumption); (case z994zp4 => first | exact rfl | assumption); (case z994zp5 => first | exact rfl | assumption); (case z994zp7 => first | exact rfl | assumption); (case z994zp9 => first | exact rfl | assumption); (case z994zp11 => first | exact rfl | assumption); (case z994zp13 => first | exact rfl | assumption); (case z994zp0 => assumption); (case z994zp1 => k_mem); (case z994zp2 => k_mem); (case z994zp6 => k_mem); (case z994zp8 => exact NumIs.mono (by assumption) (by walk_at "c sub")); (case z994zp10 => k_mem); (case z994zp12 => exact HeadIs.mono (by assumption) (by walk_at "c sub")); (case z994zret => assumption)))
  trivial

theorem sE (B : Below A₀ base outer h₀) (F : Fr h₀ L s.heap m) (X : (Mine.hd0.heap_1 w.params).In h₀) (T : Top VW LS mean mg mb h₀) (hd : dp + 100 < recursionLimit) (hu : un + 1000 < cLine) {p c cp ct : Addr} {ocp oct : Obj} {sp re : Int} {t1 t2 : Tok} {np : Nat} {ys : List Value} {nc : Nat} {ns : List Int} {led out : List (Addr × Obj)} (N : News h₀ L s.heap led) (hout : LOut p ct cp c led out) (hpen : (p, penObj c sp t1 re t2 np) ∈ led) (hctm : (ct, oct) ∈ led) (hcpm : (cp, ocp) ∈ led) (hcm : (c, listOf ys.toArray nc) ∈ led) (hcp : ocp.data = .cell (some (.ref p))) (hct : oct.data = .cell none) (hi : IntsAre ys ns) (hn9 : ns.length ≤ 63) (h0 : 0 ≤ sp) (hlt : @LT.lt Nat _ cp ct ∧ @LT.lt Nat _ ct p ∧ @LT.lt Nat _ c p ∧ @Ne Nat ct c ∧ @Ne Nat cp c) (hup : ∀ q ∈ out, @LT.lt Nat _ p q.1) (h9 : sp ≤ 38) {fa fb fc fd wd hg ma mb mc md me mf ta tb tc td : Int} (hD : Draws fa fb fc fd wd hg ma mb mc md me mf ta tb tc td) {sh dsh stb str : Addr} {ks1 ks2 : Tok} (hsh : (sh, instObj 473 dsh) ∈ out) (hdsh : (dsh, shelfObj w stb str ks1 ks2) ∈ out) (m_shelf : m (PySem.Str.ofString "shelf") = some (.ref sh)) {twd : Tok} (m_wide : m (PySem.Str.ofString "wide") = some (.int wd twd)) {thg : Tok} (m_high : m (PySem.Str.ofString "high") = some (.int hg thg)) {lf : Addr} {nf : Nat} {u1 u2 u3 u4 : Tok} (hlf : (lf, listOf #[.int fa u1, .int fb u2, .int fc u3, .int fd u4] nf) ∈ out) (m_frame : m (PySem.Str.ofString "frame") = some (.ref lf)) {vn : Value} (hvn : NumIs out vn ma mb mc md me mf) (m_numbers : m (PySem.Str.ofString "numbers") = some (vn)) {lt : Addr} {nt : Nat} {v1 v2 v3 v4 : Tok} (hltg : (lt, listOf #[.int ta v1, .int tb v2, .int tc v3, .int td v4] nt) ∈ out) (m_target : m (PySem.Str.ofString "target") = some (.ref lt))  (ret : ∀ m' h' tk', Fr h₀ L h' m' → Q (.ret (.bool true)) { s with heap := h', toks := tk' }) : wpAny (model PySem.Challenge.rw_qz0079_01.row.prog w) (ktrTop dp un gd cn lawScope L a₀ ccd [(PySem.Str.ofString "times", ct), (PySem.Str.ofString "pen", cp)] outer) (execs (lawBody.drop 8) (envX cn lawScope L a₀ ccd [(PySem.Str.ofString "times", ct), (PySem.Str.ofString "pen", cp)])) Q (fun _ _ => False) s := by
  replace N := led4 N hpen hctm hcpm hcm hout
  have hlt5 : @LT.lt Nat _ cp p := Nat.lt_trans hlt.1 hlt.2.1
  have hup' : ∀ q ∈ out, q.1 ≠ p := fun q hq => Nat.ne_of_gt (hup q hq)
  have huc' : ∀ q ∈ out, q.1 ≠ ct := fun q hq => Nat.ne_of_gt (Nat.lt_trans hlt.2.1 (hup q hq))
  clear hout hpen hctm hcpm hcm
  have hCells : Cells p ct cp c := trivial
  conv in List.drop _ lawBody => whnf
  conv in (occs := *) lawScope => whnf
  revert X; k_fill; intro X
  w_on
  (try k_fold)
  k_steps
end
end PartCE
section PartCD
theorem lines_CD_1 : True := by
  k_with_none
  k_with "c mem" =>
    first | ((with_reducible refine' mem_here ?z995zh9); (case z995zh9 => exact rfl)) | ((with_reducible refine' mem_nth 1 ?z995zh9); (case z995zh9 => exact rfl)) | ((with_reducible refine' mem_nth 2 ?z995zh9); (case z995zh9 => exact rfl)) | ((with_reducible refine' mem_nth 3 ?z995zh9); (case z995zh9 => exact rfl)) | ((with_reducible refine' mem_nth 4 ?z995zh9); (case z995zh9 => exact rfl)) | ((with_reducible refine' mem_nth 5 ?z995zh9); (case z995zh9 => exact rfl)) | ((with_reducible refine' mem_nth 6 ?z995zh9); (case z995zh9 => exact rfl)) | ((with_reducible refine' mem_nth 7 ?z995zh9); (case z995zh9 => exact rfl)) | ((with_reducible refine' mem_nth 8 ?z995zh9); (case z995zh9 => exact rfl)) | ((with_reducible refine' mem_nth 9 ?z995zh9); (case z995zh9 => exact rfl)) | ((with_reducible refine' mem_skip ?_); walk_at "c mem") | (with_reducible exact List.mem_append_left _ (by with_reducible assumption)) | ktr_member | ((with_reducible refine' List.mem_cons_of_mem _ ?_); walk_at "c mem") | ((with_reducible refine' List.mem_append_right _ ?_); walk_at "c mem")
  k_with "c room" =>
    with_reducible first | assumption | exact room1 (by assumption) rfl | exact room2 (by assumption) rfl | exact room3 (by assumption) rfl | exact room4 (by assumption) rfl
  k_with "c le" =>
    with_reducible first | assumption | exact Nat.le_trans (by assumption) (by decide)
  k_with "c lt1" =>
    with_reducible first | assumption | exact cj0 | exact cj1 | exact cj2 | exact cj3 | exact cj4 | exact cj5 | exact cj6 | exact cj7 | exact cj8 | exact cj9 | exact cj10 | exact cj11 | exact cj12 | exact cj13 | exact cj14 | exact cj15 | exact cj16 | exact cj17 | exact cj18 | exact cj19 | exact cj20 | exact cj21 | exact cj22 | exact cj23 | exact And.right (by with_reducible assumption) | exact And.right (And.right (by with_reducible assumption)) | exact And.right (And.right (And.right (by with_reducible assumption))) | exact And.right (And.right (And.right (And.right (by with_reducible assumption))))
  k_with "c lt2" =>
    ((with_reducible refine' Nat.lt_trans ?z999za9 ?z999zb9); (case z999zb9 => with_reducible assumption); (case z999za9 => walk_at "c lt1"))
  k_with "c lt" =>
    first | walk_at "c lt1" | walk_at "c lt2"
  k_with "c up3" =>
    with_reducible first | exact abv3 (by assumption) | exact abv3_1 (by assumption) | exact abv3_2 (by assumption) | exact abv3_3 (by assumption) | exact abv3_4 (by assumption) | (refine' Abv3.tr ?z1001za9 ?z1001zb9; (case z1001za9 => assumption); (case z1001zb9 => walk_at "c up3"))
  k_with "c ne" =>
    first | with_reducible (first | assumption | exact And.left (by assumption) | exact Ne.symm (And.left (by assumption)) | exact And.left (And.right (by assumption)) | exact Ne.symm (And.left (And.right (by assumption))) | exact And.right (And.right (by assumption)) | exact Ne.symm (And.right (And.right (by assumption))) | exact neq_lt (by assumption) | exact neq_gt (by assumption) | exact nl0 | exact nr0 | exact nl1 | exact nr1 | exact nl2 | exact nr2 | exact nl3 | exact nr3 | exact nl4 | exact nr4 | exact nl5 | exact nr5 | exact nl6 | exact nr6 | exact nl7 | exact nr7 | exact nl8 | exact nr8 | exact nl9 | exact nr9 | exact nl10 | exact nr10 | exact nl11 | exact nr11 | exact nl12 | exact nr12 | exact nl13 | exact nr13 | exact nl14 | exact nr14 | exact nl15 | exact nr15 | exact nl16 | exact nr16 | exact nl17 | exact nr17 | exact nl18 | exact nr18 | exact nl19 | exact nr19 | exact nl20 | exact nr20 | exact nl21 | exact nr21 | exact nl22 | exact nr22 | exact nl23 | exact nr23) | ((with_reducible refine' neq_lt ?z1002zz9); (case z1002zz9 => walk_at "c lt2")) | ((with_reducible refine' neq_gt ?z1002zz9); (case z1002zz9 => walk_at "c lt2")) | ((try dsimp only); omega)
  k_with "c dp" =>
    ((try simp only [depth_under_make, depth_under_kw, depth_in1, depth_deeper, depth_caller]); (try dsimp only [ktrTop]); first | walk_at "c room" | omega | decide)
  k_with "c un" =>
    ((try simp only [units_make, units_in1, units_deeper, Around.mark_units, units_caller]); (try dsimp only [ktrTop]); first | walk_at "c room" | omega | decide)
  k_with "c in" =>
    first | assumption | exact List.mem_append_left _ (by walk_at "c in") | exact List.mem_append_right _ (by walk_at "c in") | exact List.mem_cons_of_mem _ (by walk_at "c in")
  k_with "c sub" =>
    first | (refine List.forall_mem_cons.mpr ⟨?z1006za, ?z1006zb⟩; (case z1006za => walk_at "c mem"); (case z1006zb => walk_at "c sub")) | (refine List.forall_mem_append.mpr ⟨?z1006za, ?z1006zb⟩; (case z1006za => walk_at "c sub"); (case z1006zb => walk_at "c sub")) | exact List.forall_mem_nil _ | (intro p9 h9; walk_at "c in")
  k_with "c out" =>
    first | ((with_reducible refine' LOut.skip ?z1007za ?z1007zb); (case z1007za => first | exact Or.inl rfl | exact Or.inr (Or.inl rfl) | exact Or.inr (Or.inr (Or.inl rfl)) | exact Or.inr (Or.inr (Or.inr rfl))); (case z1007zb => walk_at "c out")) | ((with_reducible refine' LOut.take ?z1007za); (case z1007za => walk_at "c out")) | ((with_reducible refine' LOut.app ?z1007za); (case z1007za => walk_at "c out")) | exact LOut.rest
  k_with "c up" =>
    first | (refine List.forall_mem_cons.mpr ⟨?z1008za, ?z1008zb⟩; (case z1008za => ((try dsimp only); first | walk_at "c lt" | exact (by assumption : ∀ q ∈ _, q.1 < _) _ (by walk_at "c mem") | omega)); (case z1008zb => walk_at "c up")) | (refine List.forall_mem_append.mpr ⟨?z1008za, ?z1008zb⟩; (case z1008za => exact fresh_up (by assumption) (by walk_at "c mem")); (case z1008zb => walk_at "c up")) | exact List.forall_mem_nil _ | assumption
  k_with "c pen" =>
    first | exact PenOut.done (by walk_at "c off") | (refine' PenOut.take ?z1009za ?z1009zb; (case z1009za => k_ne); (case z1009zb => walk_at "c pen"))
  k_with "c off" =>
    first | assumption | exact List.forall_mem_nil _ | (refine List.forall_mem_cons.mpr ⟨?z1010za, ?z1010zb⟩; (case z1010za => k_ne); (case z1010zb => walk_at "c off"))
  k_with "c bnd" =>
    with_reducible (first | assumption | exact Bnd.pow _ | (refine' Bnd.fdiv ?z1011za; (case z1011za => walk_at "c bnd")) | (exact Bnd.mul (by walk_at "c bnd") (by walk_at "c bnd")) | (exact Bnd.add1 (by walk_at "c bnd") (by walk_at "c bnd")) | (exact Bnd.sub1 (by walk_at "c bnd") (by walk_at "c bnd")) | (exact Bnd.add (by walk_at "c bnd") (by walk_at "c bnd")) | (exact Bnd.sub (by walk_at "c bnd") (by walk_at "c bnd")))
  k_with "c ar" =>
    first | assumption | decide | omega | (split <;> omega)
  k_with "c mul" =>
    exact mulOk_bnd (by walk_at "c bnd") (by walk_at "c bnd") (by walk_at "c ar") (by walk_at "c ar")
  k_with "binaryOp Pow int int" =>
    ((with_reducible refine pow_int_small ?z1014zkb1 ?z1014zkb2 ?z1014zkb3 ?_); (case z1014zkb1 => walk_at "c ar"); (case z1014zkb2 => walk_at "c ar"); (case z1014zkb3 => decide))
  k_with "call ref" =>
    (k_here; (with_reducible show wpAny _ _ (call (Prod.fst _) (_ ++ _)) _ _ _); dsimp only [List.nil_append, List.cons_append])
  k_with "subscriptTail" =>
    (k_here; (with_reducible show wpAny _ _ (subscriptTail _ _ (Value.ref _) (Value.int _ _)) _ _ _); k_dflt (first
    | (refine' item_tupleT ?z1016zt ?z1016za ?z1016zb ?z1016zc ?z1016zd ?_; (case z1016zt => exact News.isTup (by k_asm) (by k_mem)); (case z1016za => decide); (case z1016zb => decide); (case z1016zc => exact rfl); (case z1016zd => exact rfl); k_whole)
    | (refine' c_item ?z1016zN ?z1016zm ?z1016za ?z1016zb ?z1016zc ?_ ?z1016zz; (case z1016zN => k_asm); (case z1016zm => k_mem); (case z1016za => decide); (case z1016zb => decide); (case z1016zc => exact rfl); (case z1016zz => with_unfolding_all rfl); k_whole)))
  k_with "subscriptTail Name Constant ref int" =>
    (k_here; (with_reducible show wpAny _ _ (subscriptTail _ _ (Value.ref _) (Value.int _ _)) _ _ _); k_dflt (first
    | (refine' item_tupleT ?z1017zt ?z1017za ?z1017zb ?z1017zc ?z1017zd ?_; (case z1017zt => exact News.isTup (by k_asm) (by k_mem)); (case z1017za => decide); (case z1017zb => decide); (case z1017zc => exact rfl); (case z1017zd => exact rfl); k_whole)
    | (refine' c_item ?z1017zN ?z1017zm ?z1017za ?z1017zb ?z1017zc ?_ ?z1017zz; (case z1017zN => k_asm); (case z1017zm => k_mem); (case z1017za => decide); (case z1017zb => decide); (case z1017zc => exact rfl); (case z1017zz => with_unfolding_all rfl); k_whole)))
  trivial
section
variable {w : World} {mean : ExcName → Option Value} {mg mb : PySem.Str → Option Value} {dp un : Nat} {gd : Option (List Code)} {cn : PySem.Str} {cs : Scope} {a₀ : Addr} {ccd : Value} {cl : List (PySem.Str × Addr)} {outer : List Env}
  {A₀ : Around} {base h₀ : Heap} {L : Addr} {m : PySem.Str → Option Value} {s : Shared} {news : List (Addr × Obj)} {Q : Flow → Shared → Prop} {E : Value → Shared → Prop}
theorem lines_CD_2 : True := by
  k_with "c les" =>
    ((with_reducible refine' sub_of ?z1018zhc9 ?z1018zhr9); (case z1018zhc9 => with_reducible assumption); (case z1018zhr9 => walk_at "c out"))
  k_with "c wo" =>
    first | ((with_reducible refine' Wo.skip ?z1019za); (case z1019za => walk_at "c wo")) | ((with_reducible refine' Wo.take ?z1019za); (case z1019za => walk_at "c wo")) | exact Wo.rest
  k_with "eval Name" =>
    (k_here; k_dflt (refine' nameX_L ?z1020zF ?z1020zv ?_ ?z1020za ?z1020zb; (case z1020zF => k_asm); (case z1020za => exact rfl); (case z1020zb => exact rfl); (case z1020zv => first | exact rfl | assumption); k_whole))
  k_with "c kept" =>
    first | exact Kept.done (by with_reducible assumption) | (refine' Kept.skipI ?z1021zk9; (case z1021zk9 => walk_at "c kept")) | (refine' Kept.skipC ?z1021zk9; (case z1021zk9 => walk_at "c kept")) | (refine' Kept.skipD ?z1021zk9; (case z1021zk9 => walk_at "c kept")) | ((with_reducible refine' Kept.takeF ?z1021zu9 ?z1021zk9); (case z1021zu9 => with_reducible assumption); (case z1021zk9 => walk_at "c kept")) | ((with_reducible refine' Kept.take3 ?z1021zu9 ?z1021zk9); (case z1021zu9 => walk_at "c up3"); (case z1021zk9 => walk_at "c kept")) | (refine' Kept.take ?z1021za ?z1021zb ?z1021zc ?z1021zk9; (case z1021za => first | omega | k_ne); (case z1021zb => first | omega | k_ne); (case z1021zc => first | omega | k_ne); (case z1021zk9 => walk_at "c kept"))
  k_with "CompEnd" =>
    (k_dflt (refine' kept_end ?z1022zF ?z1022zN ?z1022zk ?z1022zi ?z1022zc ?z1022zd ?z1022zs ?_; (case z1022zF => k_asm); (case z1022zN => k_asm); (case z1022zk => with_reducible walk_at "c kept"); (case z1022zi => k_mem); (case z1022zc => k_mem); (case z1022zd => k_mem); (case z1022zs => first | exact True.intro | (refine' src_list ?z1022zm1; (case z1022zm1 => k_mem)) | exact Or.inl (by assumption))))
  k_with "CompRest" =>
    (with_unfolding_all first
    | (refine LCg.CompRest.succ ?_; intro v' I' oI' C' oC' D' m' h' tk' E' hv' hC' hx' F' N' off' ne'; (first | lcg_open hv' | (obtain ⟨t9', hv9'⟩ := hv'; subst hv9')); (try simp only [LCg.Off3, and_true] at off'); (obtain ⟨of1', of2', of3', of4', of5'⟩ := off'))
    | refine LCg.CompRest.zero ?_)
  k_with "FinE" =>
    ((unfold LCg.FinE); intro D' h' tk' F' N' o1'; clear o1'; (try simp only [List.nil_append, List.cons_append] at N'); (try dsimp only))
  k_with "FinA" =>
    ((unfold LCg.FinA); intro D' h' tk' F' N' o1'; (try simp only [LCg.Off1, and_true] at o1'); (obtain ⟨og1', og2', og3', og4', og5'⟩ := o1'); (have hLo' := lost_any D'); (try simp only [List.nil_append, List.cons_append] at N'); (try dsimp only))
  k_with "CompRestP" =>
    (with_unfolding_all first
    | (refine LCp.CompRestP.succ ?_; intro v' hv'; lcg_open hv'; refine ⟨_, _, _, _, _, rfl, by k_mem, rfl, rfl, ?_⟩; intro I' oI' C' oC' D' m' h' tk' E' hC' hx' hy' F' N' off' ne')
    | refine LCp.CompRestP.zero ?_)
  k_with "CompSrc" =>
    (k_here; k_dflt (refine LCg.CompSrc.ledger (by rfl) (by k_asm) (by k_asm) (by k_mem) (by first | size_fits | exact Nat.le_of_ble_eq_true rfl) ?_; intro g'; lcg_lit))
  k_with "exec Assign cons ListComp" =>
    (k_here; lcg_look; k_dflt (refine LCg.Assign_ListComp_U (F₀ := by k_asm) (by rfl) (by with_unfolding_all rfl) (by rfl) (by decide) (by rfl) (by decide) (by rfl) (by rfl) (by rfl) ?_); k_dflt lcg_toSrc)
  k_with "CompSrc" =>
    (k_here; k_dflt (refine LCg.CompSrc.range (by rfl) (by k_asm) (by k_asm) (by assumption) (by first | decide | rfl) (by first | rfl | decide) (by first | size_fits | exact Nat.le_of_ble_eq_true rfl) ?_; intro g'; lcg_lit))
  k_with "exec Assign cons ListComp" =>
    (k_here; k_dflt (refine LCg.Assign_ListComp_U (F₀ := by k_asm) (by rfl) (by with_unfolding_all rfl) (by with_unfolding_all rfl) (by decide) (by rfl) (by decide) (by rfl) (by rfl) (by rfl) ?_); k_dflt lcg_toSrc)
  k_with "subscriptTail Name Constant ref int" =>
    (k_here; (with_reducible show wpAny _ _ (subscriptTail _ _ (Value.ref _) (Value.int _ _)) _ _ _); k_dflt (refine' c_item ?z1031zN ?z1031zm ?z1031za ?z1031zb ?z1031zc ?_ ?z1031zz; (case z1031zN => k_asm); (case z1031zm => k_mem); (case z1031za => decide); (case z1031zb => decide); (case z1031zc => exact rfl); (case z1031zz => with_unfolding_all rfl); k_whole))
  k_with "call ref" =>
    (k_here; (with_reducible show wpAny _ _ (call (Value.ref 522) [Value.ref _, Value.int _ _]) _ _ _); k_dflt (refine' c_draw ?z1032zcB ?z1032zcF ?z1032zcX ?z1032zcN ?z1032zcT ?z1032zcK ?z1032zcD ?z1032zcU ?z1032zp0 ?z1032zp1 ?z1032zp2 ?z1032zp3 ?z1032zp4 ?z1032zp5 ?z1032zp6 ?z1032zp7 ?_; (case z1032zcB => k_asm); (case z1032zcF => k_asm); (case z1032zcX => k_asm); (case z1032zcN => k_asm); (case z1032zcT => k_asm); (case z1032zcK => first | exact rfl | assumption); (case z1032zcD => walk_at "c dp"); (case z1032zcU => walk_at "c un"); (case z1032zp0 => walk_at "c pen"); (case z1032zp1 => k_mem); (case z1032zp2 => assumption); (case z1032zp3 => assumption); (case z1032zp4 => first | assumption | decide | omega); (case z1032zp5 => first | assumption | decide | omega); (case z1032zp6 => omega); (case z1032zp7 => omega); intro k' t' sp' t1' re' t2' h' tk' F' N' b1 b2 b3 b4; (try k_sweep); (try dsimp only); (try k_fold)))
  k_with "execs cons Assign cons" =>
    (k_here; (with_reducible show wpAny _ _ (execs (PySem.Stmt.Assign _ _ ⟨342, 4, 342, 55⟩ :: _) _) _ _ _); k_dflt (refine' sE ?z1033zB ?z1033zF ?z1033zX ?z1033zT ?z1033zcd ?z1033zcu ?z1033zN ?z1033zho ?z1033zhp ?z1033zh2 ?z1033zh3 ?z1033zh4 ?z1033ze1 ?z1033ze2 ?z1033zi ?z1033zn9 ?z1033zb0 ?z1033zlt ?z1033zup ?z1033zb9 ?z1033zp0 ?z1033zp1 ?z1033zp2 ?z1033zp3 ?z1033zp4 ?z1033zp5 ?z1033zp6 ?z1033zp7 ?z1033zp8 ?z1033zp9 ?z1033zp10 ?z1033zp11 ?z1033zret; (case z1033zB => k_asm); (case z1033zF => k_asm); (case z1033zX => k_asm); (case z1033zT => k_asm); (case z1033zcd => assumption); (case z1033zcu => assumption); (case z1033zN => ((refine' wo_news ?z1033zx9 ?z1033zy9 ?z1033zz9); (case z1033zx9 => with_reducible assumption); (case z1033zy9 => k_asm); (case z1033zz9 => walk_at "c wo"))); (case z1033zh3 => k_mem); (case z1033ze1 => first | assumption | exact rfl); (case z1033zhp => k_mem); (case z1033zh4 => k_mem); (case z1033zh2 => k_mem); (case z1033ze2 => first | assumption | exact rfl); (case z1033zi => assumption); (case z1033zn9 => assumption); (case z1033zb0 => first | assumption | decide | omega); (case z1033zb9 => first | assumption | decide | omega); (case z1033zlt => first | with_reducible assumption | (refine ⟨?_, ?_, ?_, ?_, ?_⟩ <;> omega)); (case z1033zho => walk_at "c out"); (case z1033zup => walk_at "c up"); (case z1033zp3 => first | exact rfl | assumption); (case z1033zp4 => first | exact rfl | assumption); (case z1033zp5 => first | exact rfl | assumption); (case z1033zp7 => first | exact rfl | assumption); (case z1033zp9 => first | exact rfl | assumption); (case z1033zp11 => first | exact rfl | assumption); (case z1033zp1 => k_mem); (case z1033zp2 => k_mem); (case z1033zp6 => k_mem); (case z1033zp8 => exact NumIs.mono (by assumption) (by walk_at "c sub")); (case z1033zp10 => k_mem); (case z1033zp0 => exact Draws2.all (by assumption) ⟨by omega, by omega⟩ ⟨by omega, by omega⟩ ⟨by omega, by omega⟩ ⟨by omega, by omega⟩); (case z1033zret => assumption)))
  trivial

theorem sD (B : Below A₀ base outer h₀) (F : Fr h₀ L s.heap m) (X : (Mine.hd0.heap_1 w.params).In h₀) (T : Top VW LS mean mg mb h₀) (hd : dp + 100 < recursionLimit) (hu : un + 1000 < cLine) {p c cp ct : Addr} {ocp oct : Obj} {sp re : Int} {t1 t2 : Tok} {np : Nat} {ys : List Value} {nc : Nat} {ns : List Int} {led out : List (Addr × Obj)} (N : News h₀ L s.heap led) (hout : LOut p ct cp c led out) (hpen : (p, penObj c sp t1 re t2 np) ∈ led) (hctm : (ct, oct) ∈ led) (hcpm : (cp, ocp) ∈ led) (hcm : (c, listOf ys.toArray nc) ∈ led) (hcp : ocp.data = .cell (some (.ref p))) (hct : oct.data = .cell none) (hi : IntsAre ys ns) (hn9 : ns.length ≤ 63) (h0 : 0 ≤ sp) (hlt : @LT.lt Nat _ cp ct ∧ @LT.lt Nat _ ct p ∧ @LT.lt Nat _ c p ∧ @Ne Nat ct c ∧ @Ne Nat cp c) (hup : ∀ q ∈ out, @LT.lt Nat _ p q.1) (h9 : sp ≤ 10) {fa fb fc fd wd hg ma mb mc md me mf : Int} (hD : Draws2 fa fb fc fd wd hg ma mb mc md me mf) {sh dsh stb str : Addr} {ks1 ks2 : Tok} (hsh : (sh, instObj 473 dsh) ∈ out) (hdsh : (dsh, shelfObj w stb str ks1 ks2) ∈ out) (m_shelf : m (PySem.Str.ofString "shelf") = some (.ref sh)) {twd : Tok} (m_wide : m (PySem.Str.ofString "wide") = some (.int wd twd)) {thg : Tok} (m_high : m (PySem.Str.ofString "high") = some (.int hg thg)) {lf : Addr} {nf : Nat} {u1 u2 u3 u4 : Tok} (hlf : (lf, listOf #[.int fa u1, .int fb u2, .int fc u3, .int fd u4] nf) ∈ out) (m_frame : m (PySem.Str.ofString "frame") = some (.ref lf)) {vn : Value} (hvn : NumIs out vn ma mb mc md me mf) (m_numbers : m (PySem.Str.ofString "numbers") = some (vn))  (ret : ∀ m' h' tk', Fr h₀ L h' m' → Q (.ret (.bool true)) { s with heap := h', toks := tk' }) : wpAny (model PySem.Challenge.rw_qz0079_01.row.prog w) (ktrTop dp un gd cn lawScope L a₀ ccd [(PySem.Str.ofString "times", ct), (PySem.Str.ofString "pen", cp)] outer) (execs (lawBody.drop 6) (envX cn lawScope L a₀ ccd [(PySem.Str.ofString "times", ct), (PySem.Str.ofString "pen", cp)])) Q (fun _ _ => False) s := by
  replace N := led4 N hpen hctm hcpm hcm hout
  have hlt5 : @LT.lt Nat _ cp p := Nat.lt_trans hlt.1 hlt.2.1
  have hup' : ∀ q ∈ out, q.1 ≠ p := fun q hq => Nat.ne_of_gt (hup q hq)
  have huc' : ∀ q ∈ out, q.1 ≠ ct := fun q hq => Nat.ne_of_gt (Nat.lt_trans hlt.2.1 (hup q hq))
  clear hout hpen hctm hcpm hcm
  conv in List.drop _ lawBody => whnf
  conv in (occs := *) lawScope => whnf
  revert X; k_fill; intro X
  w_on
  (try k_fold)
  k_steps
  all_goals skip
end
end PartCD
section PartCCC
theorem lines_CCC_1 : True := by
  k_with_none
  k_with "c mem" =>
    first | ((with_reducible refine' mem_here ?z1034zh9); (case z1034zh9 => exact rfl)) | ((with_reducible refine' mem_nth 1 ?z1034zh9); (case z1034zh9 => exact rfl)) | ((with_reducible refine' mem_nth 2 ?z1034zh9); (case z1034zh9 => exact rfl)) | ((with_reducible refine' mem_nth 3 ?z1034zh9); (case z1034zh9 => exact rfl)) | ((with_reducible refine' mem_nth 4 ?z1034zh9); (case z1034zh9 => exact rfl)) | ((with_reducible refine' mem_nth 5 ?z1034zh9); (case z1034zh9 => exact rfl)) | ((with_reducible refine' mem_nth 6 ?z1034zh9); (case z1034zh9 => exact rfl)) | ((with_reducible refine' mem_nth 7 ?z1034zh9); (case z1034zh9 => exact rfl)) | ((with_reducible refine' mem_nth 8 ?z1034zh9); (case z1034zh9 => exact rfl)) | ((with_reducible refine' mem_nth 9 ?z1034zh9); (case z1034zh9 => exact rfl)) | ((with_reducible refine' mem_skip ?_); walk_at "c mem") | (with_reducible exact List.mem_append_left _ (by with_reducible assumption)) | ktr_member | ((with_reducible refine' List.mem_cons_of_mem _ ?_); walk_at "c mem") | ((with_reducible refine' List.mem_append_right _ ?_); walk_at "c mem")
  k_with "c room" =>
    with_reducible first | assumption | exact room1 (by assumption) rfl | exact room2 (by assumption) rfl | exact room3 (by assumption) rfl | exact room4 (by assumption) rfl
  k_with "c le" =>
    with_reducible first | assumption | exact Nat.le_trans (by assumption) (by decide)
  k_with "c lt1" =>
    with_reducible first | assumption | exact cj0 | exact cj1 | exact cj2 | exact cj3 | exact cj4 | exact cj5 | exact cj6 | exact cj7 | exact cj8 | exact cj9 | exact cj10 | exact cj11 | exact cj12 | exact cj13 | exact cj14 | exact cj15 | exact cj16 | exact cj17 | exact cj18 | exact cj19 | exact cj20 | exact cj21 | exact cj22 | exact cj23 | exact And.right (by with_reducible assumption) | exact And.right (And.right (by with_reducible assumption)) | exact And.right (And.right (And.right (by with_reducible assumption))) | exact And.right (And.right (And.right (And.right (by with_reducible assumption))))
  k_with "c lt2" =>
    ((with_reducible refine' Nat.lt_trans ?z1038za9 ?z1038zb9); (case z1038zb9 => with_reducible assumption); (case z1038za9 => walk_at "c lt1"))
  k_with "c lt" =>
    first | walk_at "c lt1" | walk_at "c lt2"
  k_with "c up3" =>
    with_reducible first | exact abv3 (by assumption) | exact abv3_1 (by assumption) | exact abv3_2 (by assumption) | exact abv3_3 (by assumption) | exact abv3_4 (by assumption) | (refine' Abv3.tr ?z1040za9 ?z1040zb9; (case z1040za9 => assumption); (case z1040zb9 => walk_at "c up3"))
  k_with "c ne" =>
    first | with_reducible (first | assumption | exact And.left (by assumption) | exact Ne.symm (And.left (by assumption)) | exact And.left (And.right (by assumption)) | exact Ne.symm (And.left (And.right (by assumption))) | exact And.right (And.right (by assumption)) | exact Ne.symm (And.right (And.right (by assumption))) | exact neq_lt (by assumption) | exact neq_gt (by assumption) | exact nl0 | exact nr0 | exact nl1 | exact nr1 | exact nl2 | exact nr2 | exact nl3 | exact nr3 | exact nl4 | exact nr4 | exact nl5 | exact nr5 | exact nl6 | exact nr6 | exact nl7 | exact nr7 | exact nl8 | exact nr8 | exact nl9 | exact nr9 | exact nl10 | exact nr10 | exact nl11 | exact nr11 | exact nl12 | exact nr12 | exact nl13 | exact nr13 | exact nl14 | exact nr14 | exact nl15 | exact nr15 | exact nl16 | exact nr16 | exact nl17 | exact nr17 | exact nl18 | exact nr18 | exact nl19 | exact nr19 | exact nl20 | exact nr20 | exact nl21 | exact nr21 | exact nl22 | exact nr22 | exact nl23 | exact nr23) | ((with_reducible refine' neq_lt ?z1041zz9); (case z1041zz9 => walk_at "c lt2")) | ((with_reducible refine' neq_gt ?z1041zz9); (case z1041zz9 => walk_at "c lt2")) | ((try dsimp only); omega)
  k_with "c dp" =>
    ((try simp only [depth_under_make, depth_under_kw, depth_in1, depth_deeper, depth_caller]); (try dsimp only [ktrTop]); first | walk_at "c room" | omega | decide)
  k_with "c un" =>
    ((try simp only [units_make, units_in1, units_deeper, Around.mark_units, units_caller]); (try dsimp only [ktrTop]); first | walk_at "c room" | omega | decide)
  k_with "c in" =>
    first | assumption | exact List.mem_append_left _ (by walk_at "c in") | exact List.mem_append_right _ (by walk_at "c in") | exact List.mem_cons_of_mem _ (by walk_at "c in")
  k_with "c sub" =>
    first | (refine List.forall_mem_cons.mpr ⟨?z1045za, ?z1045zb⟩; (case z1045za => walk_at "c mem"); (case z1045zb => walk_at "c sub")) | (refine List.forall_mem_append.mpr ⟨?z1045za, ?z1045zb⟩; (case z1045za => walk_at "c sub"); (case z1045zb => walk_at "c sub")) | exact List.forall_mem_nil _ | (intro p9 h9; walk_at "c in")
  k_with "c out" =>
    first | ((with_reducible refine' LOut.skip ?z1046za ?z1046zb); (case z1046za => first | exact Or.inl rfl | exact Or.inr (Or.inl rfl) | exact Or.inr (Or.inr (Or.inl rfl)) | exact Or.inr (Or.inr (Or.inr rfl))); (case z1046zb => walk_at "c out")) | ((with_reducible refine' LOut.take ?z1046za); (case z1046za => walk_at "c out")) | ((with_reducible refine' LOut.app ?z1046za); (case z1046za => walk_at "c out")) | exact LOut.rest
  k_with "c up" =>
    first | (refine List.forall_mem_cons.mpr ⟨?z1047za, ?z1047zb⟩; (case z1047za => ((try dsimp only); first | walk_at "c lt" | exact (by assumption : ∀ q ∈ _, q.1 < _) _ (by walk_at "c mem") | omega)); (case z1047zb => walk_at "c up")) | (refine List.forall_mem_append.mpr ⟨?z1047za, ?z1047zb⟩; (case z1047za => exact fresh_up (by assumption) (by walk_at "c mem")); (case z1047zb => walk_at "c up")) | exact List.forall_mem_nil _ | assumption
  k_with "c pen" =>
    first | exact PenOut.done (by walk_at "c off") | (refine' PenOut.take ?z1048za ?z1048zb; (case z1048za => k_ne); (case z1048zb => walk_at "c pen"))
  k_with "c off" =>
    first | assumption | exact List.forall_mem_nil _ | (refine List.forall_mem_cons.mpr ⟨?z1049za, ?z1049zb⟩; (case z1049za => k_ne); (case z1049zb => walk_at "c off"))
  k_with "c bnd" =>
    with_reducible (first | assumption | exact Bnd.pow _ | (refine' Bnd.fdiv ?z1050za; (case z1050za => walk_at "c bnd")) | (exact Bnd.mul (by walk_at "c bnd") (by walk_at "c bnd")) | (exact Bnd.add1 (by walk_at "c bnd") (by walk_at "c bnd")) | (exact Bnd.sub1 (by walk_at "c bnd") (by walk_at "c bnd")) | (exact Bnd.add (by walk_at "c bnd") (by walk_at "c bnd")) | (exact Bnd.sub (by walk_at "c bnd") (by walk_at "c bnd")))
  k_with "c ar" =>
    first | assumption | decide | omega | (split <;> omega)
  k_with "c mul" =>
    exact mulOk_bnd (by walk_at "c bnd") (by walk_at "c bnd") (by walk_at "c ar") (by walk_at "c ar")
  k_with "binaryOp Pow int int" =>
    ((with_reducible refine pow_int_small ?z1053zkb1 ?z1053zkb2 ?z1053zkb3 ?_); (case z1053zkb1 => walk_at "c ar"); (case z1053zkb2 => walk_at "c ar"); (case z1053zkb3 => decide))
  k_with "call ref" =>
    (k_here; (with_reducible show wpAny _ _ (call (Prod.fst _) (_ ++ _)) _ _ _); dsimp only [List.nil_append, List.cons_append])
  k_with "subscriptTail" =>
    (k_here; (with_reducible show wpAny _ _ (subscriptTail _ _ (Value.ref _) (Value.int _ _)) _ _ _); k_dflt (first
    | (refine' item_tupleT ?z1055zt ?z1055za ?z1055zb ?z1055zc ?z1055zd ?_; (case z1055zt => exact News.isTup (by k_asm) (by k_mem)); (case z1055za => decide); (case z1055zb => decide); (case z1055zc => exact rfl); (case z1055zd => exact rfl); k_whole)
    | (refine' c_item ?z1055zN ?z1055zm ?z1055za ?z1055zb ?z1055zc ?_ ?z1055zz; (case z1055zN => k_asm); (case z1055zm => k_mem); (case z1055za => decide); (case z1055zb => decide); (case z1055zc => exact rfl); (case z1055zz => with_unfolding_all rfl); k_whole)))
  k_with "subscriptTail Name Constant ref int" =>
    (k_here; (with_reducible show wpAny _ _ (subscriptTail _ _ (Value.ref _) (Value.int _ _)) _ _ _); k_dflt (first
    | (refine' item_tupleT ?z1056zt ?z1056za ?z1056zb ?z1056zc ?z1056zd ?_; (case z1056zt => exact News.isTup (by k_asm) (by k_mem)); (case z1056za => decide); (case z1056zb => decide); (case z1056zc => exact rfl); (case z1056zd => exact rfl); k_whole)
    | (refine' c_item ?z1056zN ?z1056zm ?z1056za ?z1056zb ?z1056zc ?_ ?z1056zz; (case z1056zN => k_asm); (case z1056zm => k_mem); (case z1056za => decide); (case z1056zb => decide); (case z1056zc => exact rfl); (case z1056zz => with_unfolding_all rfl); k_whole)))
  trivial
section
variable {w : World} {mean : ExcName → Option Value} {mg mb : PySem.Str → Option Value} {dp un : Nat} {gd : Option (List Code)} {cn : PySem.Str} {cs : Scope} {a₀ : Addr} {ccd : Value} {cl : List (PySem.Str × Addr)} {outer : List Env}
  {A₀ : Around} {base h₀ : Heap} {L : Addr} {m : PySem.Str → Option Value} {s : Shared} {news : List (Addr × Obj)} {Q : Flow → Shared → Prop} {E : Value → Shared → Prop}
theorem lines_CCC_2 : True := by
  k_with "c les" =>
    ((with_reducible refine' sub_of ?z1057zhc9 ?z1057zhr9); (case z1057zhc9 => with_reducible assumption); (case z1057zhr9 => walk_at "c out"))
  k_with "c wo" =>
    first | ((with_reducible refine' Wo.skip ?z1058za); (case z1058za => walk_at "c wo")) | ((with_reducible refine' Wo.take ?z1058za); (case z1058za => walk_at "c wo")) | exact Wo.rest
  k_with "eval Name" =>
    (k_here; k_dflt (refine' nameX_L ?z1059zF ?z1059zv ?_ ?z1059za ?z1059zb; (case z1059zF => k_asm); (case z1059za => exact rfl); (case z1059zb => exact rfl); (case z1059zv => first | exact rfl | assumption); k_whole))
  k_with "call ref" =>
    (k_here; (with_reducible show wpAny _ _ (call (Value.ref 529) [Value.ref _, Value.ref _]) _ _ _); k_dflt (refine' c_pick ?z1060zcB ?z1060zcF ?z1060zcX ?z1060zcN ?z1060zcT ?z1060zcK ?z1060zcD ?z1060zcU ?z1060zp0 ?z1060zp1 ?z1060zp2 ?z1060zp3 ?z1060zp4 ?z1060zp5 ?z1060zp6 ?z1060zp7 ?z1060zp8 ?_; (case z1060zcB => k_asm); (case z1060zcF => k_asm); (case z1060zcX => k_asm); (case z1060zcN => k_asm); (case z1060zcT => k_asm); (case z1060zcK => first | exact rfl | assumption); (case z1060zcD => walk_at "c dp"); (case z1060zcU => walk_at "c un"); (case z1060zp0 => walk_at "c pen"); (case z1060zp6 => k_mem); (case z1060zp1 => k_mem); (case z1060zp2 => assumption); (case z1060zp3 => assumption); (case z1060zp4 => first | assumption | decide | omega); (case z1060zp5 => first | assumption | decide | omega); (case z1060zp7 => exact Nat.le_of_ble_eq_true rfl); (case z1060zp8 => exact Nat.le_of_ble_eq_true rfl); intro v' sp' t1' re' t2' h' tk' F' N' hv' b3 b4; (obtain ⟨na', nb', nc9', nd', ne9', nf', hN', hP'⟩ := nums_of N' (by k_mem) (by k_mem) (by k_mem) hv'); clear hv'; (try k_sweep); (try dsimp only); (try k_fold)))
  k_with "execs cons Assign cons" =>
    (k_here; (with_reducible show wpAny _ _ (execs (PySem.Stmt.Assign _ _ ⟨340, 4, 340, 58⟩ :: _) _) _ _ _); k_dflt (refine' sD ?z1061zB ?z1061zF ?z1061zX ?z1061zT ?z1061zcd ?z1061zcu ?z1061zN ?z1061zho ?z1061zhp ?z1061zh2 ?z1061zh3 ?z1061zh4 ?z1061ze1 ?z1061ze2 ?z1061zi ?z1061zn9 ?z1061zb0 ?z1061zlt ?z1061zup ?z1061zb9 ?z1061zp0 ?z1061zp1 ?z1061zp2 ?z1061zp3 ?z1061zp4 ?z1061zp5 ?z1061zp6 ?z1061zp7 ?z1061zp8 ?z1061zp9 ?z1061zret; (case z1061zB => k_asm); (case z1061zF => k_asm); (case z1061zX => k_asm); (case z1061zT => k_asm); (case z1061zcd => assumption); (case z1061zcu => assumption); (case z1061zN => k_asm); (case z1061zh3 => k_mem); (case z1061ze1 => first | assumption | exact rfl); (case z1061zhp => k_mem); (case z1061zh4 => k_mem); (case z1061zh2 => k_mem); (case z1061ze2 => first | assumption | exact rfl); (case z1061zi => assumption); (case z1061zn9 => assumption); (case z1061zb0 => first | assumption | decide | omega); (case z1061zb9 => first | assumption | decide | omega); (case z1061zlt => first | with_reducible assumption | (refine ⟨?_, ?_, ?_, ?_, ?_⟩ <;> omega)); (case z1061zho => walk_at "c out"); (case z1061zup => walk_at "c up"); (case z1061zp3 => first | exact rfl | assumption); (case z1061zp4 => first | exact rfl | assumption); (case z1061zp5 => first | exact rfl | assumption); (case z1061zp7 => first | exact rfl | assumption); (case z1061zp9 => first | exact rfl | assumption); (case z1061zp1 => k_mem); (case z1061zp2 => k_mem); (case z1061zp6 => k_mem); (case z1061zp8 => exact NumIs.mono (by assumption) (by walk_at "c sub")); (case z1061zp0 => exact ⟨by assumption, rfl, rfl, by assumption⟩); (case z1061zret => assumption)))
  trivial

theorem sC (B : Below A₀ base outer h₀) (F : Fr h₀ L s.heap m) (X : (Mine.hd0.heap_1 w.params).In h₀) (T : Top VW LS mean mg mb h₀) (hd : dp + 100 < recursionLimit) (hu : un + 1000 < cLine) {p c cp ct : Addr} {ocp oct : Obj} {sp re : Int} {t1 t2 : Tok} {np : Nat} {ys : List Value} {nc : Nat} {ns : List Int} {led out : List (Addr × Obj)} (N : News h₀ L s.heap led) (hout : LOut p ct cp c led out) (hpen : (p, penObj c sp t1 re t2 np) ∈ led) (hctm : (ct, oct) ∈ led) (hcpm : (cp, ocp) ∈ led) (hcm : (c, listOf ys.toArray nc) ∈ led) (hcp : ocp.data = .cell (some (.ref p))) (hct : oct.data = .cell none) (hi : IntsAre ys ns) (hn9 : ns.length ≤ 63) (h0 : 0 ≤ sp) (hlt : @LT.lt Nat _ cp ct ∧ @LT.lt Nat _ ct p ∧ @LT.lt Nat _ c p ∧ @Ne Nat ct c ∧ @Ne Nat cp c) (hup : ∀ q ∈ out, @LT.lt Nat _ p q.1) (h9 : sp ≤ 9) {fa fb wd hg : Int} (hD : Draws1 fa fb wd hg) {sh dsh stb str : Addr} {ks1 ks2 : Tok} (hsh : (sh, instObj 473 dsh) ∈ out) (hdsh : (dsh, shelfObj w stb str ks1 ks2) ∈ out) (m_shelf : m (PySem.Str.ofString "shelf") = some (.ref sh)) {twd : Tok} (m_wide : m (PySem.Str.ofString "wide") = some (.int wd twd)) {thg : Tok} (m_high : m (PySem.Str.ofString "high") = some (.int hg thg)) {tlf : Tok} (m_left : m (PySem.Str.ofString "left") = some (.int fa tlf)) {tbt : Tok} (m_bottom : m (PySem.Str.ofString "bottom") = some (.int fb tbt))  (ret : ∀ m' h' tk', Fr h₀ L h' m' → Q (.ret (.bool true)) { s with heap := h', toks := tk' }) : wpAny (model PySem.Challenge.rw_qz0079_01.row.prog w) (ktrTop dp un gd cn lawScope L a₀ ccd [(PySem.Str.ofString "times", ct), (PySem.Str.ofString "pen", cp)] outer) (execs (lawBody.drop 4) (envX cn lawScope L a₀ ccd [(PySem.Str.ofString "times", ct), (PySem.Str.ofString "pen", cp)])) Q (fun _ _ => False) s := by
  replace N := led4 N hpen hctm hcpm hcm hout
  have hlt5 : @LT.lt Nat _ cp p := Nat.lt_trans hlt.1 hlt.2.1
  have hup' : ∀ q ∈ out, q.1 ≠ p := fun q hq => Nat.ne_of_gt (hup q hq)
  have huc' : ∀ q ∈ out, q.1 ≠ ct := fun q hq => Nat.ne_of_gt (Nat.lt_trans hlt.2.1 (hup q hq))
  clear hout hpen hctm hcpm hcm
  conv in List.drop _ lawBody => whnf
  conv in (occs := *) lawScope => whnf
  revert X; k_fill; intro X
  w_on
  (try k_fold)
  k_steps
  all_goals skip
end
end PartCCC
section PartCB
theorem lines_CB_1 : True := by
  k_with_none
  k_with "c mem" =>
    first | ((with_reducible refine' mem_here ?z1062zh9); (case z1062zh9 => exact rfl)) | ((with_reducible refine' mem_nth 1 ?z1062zh9); (case z1062zh9 => exact rfl)) | ((with_reducible refine' mem_nth 2 ?z1062zh9); (case z1062zh9 => exact rfl)) | ((with_reducible refine' mem_nth 3 ?z1062zh9); (case z1062zh9 => exact rfl)) | ((with_reducible refine' mem_nth 4 ?z1062zh9); (case z1062zh9 => exact rfl)) | ((with_reducible refine' mem_nth 5 ?z1062zh9); (case z1062zh9 => exact rfl)) | ((with_reducible refine' mem_nth 6 ?z1062zh9); (case z1062zh9 => exact rfl)) | ((with_reducible refine' mem_nth 7 ?z1062zh9); (case z1062zh9 => exact rfl)) | ((with_reducible refine' mem_nth 8 ?z1062zh9); (case z1062zh9 => exact rfl)) | ((with_reducible refine' mem_nth 9 ?z1062zh9); (case z1062zh9 => exact rfl)) | ((with_reducible refine' mem_skip ?_); walk_at "c mem") | (with_reducible exact List.mem_append_left _ (by with_reducible assumption)) | ktr_member | ((with_reducible refine' List.mem_cons_of_mem _ ?_); walk_at "c mem") | ((with_reducible refine' List.mem_append_right _ ?_); walk_at "c mem")
  k_with "c room" =>
    with_reducible first | assumption | exact room1 (by assumption) rfl | exact room2 (by assumption) rfl | exact room3 (by assumption) rfl | exact room4 (by assumption) rfl
  k_with "c le" =>
    with_reducible first | assumption | exact Nat.le_trans (by assumption) (by decide)
  k_with "c lt1" =>
    with_reducible first | assumption | exact cj0 | exact cj1 | exact cj2 | exact cj3 | exact cj4 | exact cj5 | exact cj6 | exact cj7 | exact cj8 | exact cj9 | exact cj10 | exact cj11 | exact cj12 | exact cj13 | exact cj14 | exact cj15 | exact cj16 | exact cj17 | exact cj18 | exact cj19 | exact cj20 | exact cj21 | exact cj22 | exact cj23 | exact And.right (by with_reducible assumption) | exact And.right (And.right (by with_reducible assumption)) | exact And.right (And.right (And.right (by with_reducible assumption))) | exact And.right (And.right (And.right (And.right (by with_reducible assumption))))
  k_with "c lt2" =>
    ((with_reducible refine' Nat.lt_trans ?z1066za9 ?z1066zb9); (case z1066zb9 => with_reducible assumption); (case z1066za9 => walk_at "c lt1"))
  k_with "c lt" =>
    first | walk_at "c lt1" | walk_at "c lt2"
  k_with "c up3" =>
    with_reducible first | exact abv3 (by assumption) | exact abv3_1 (by assumption) | exact abv3_2 (by assumption) | exact abv3_3 (by assumption) | exact abv3_4 (by assumption) | (refine' Abv3.tr ?z1068za9 ?z1068zb9; (case z1068za9 => assumption); (case z1068zb9 => walk_at "c up3"))
  k_with "c ne" =>
    first | with_reducible (first | assumption | exact And.left (by assumption) | exact Ne.symm (And.left (by assumption)) | exact And.left (And.right (by assumption)) | exact Ne.symm (And.left (And.right (by assumption))) | exact And.right (And.right (by assumption)) | exact Ne.symm (And.right (And.right (by assumption))) | exact neq_lt (by assumption) | exact neq_gt (by assumption) | exact nl0 | exact nr0 | exact nl1 | exact nr1 | exact nl2 | exact nr2 | exact nl3 | exact nr3 | exact nl4 | exact nr4 | exact nl5 | exact nr5 | exact nl6 | exact nr6 | exact nl7 | exact nr7 | exact nl8 | exact nr8 | exact nl9 | exact nr9 | exact nl10 | exact nr10 | exact nl11 | exact nr11 | exact nl12 | exact nr12 | exact nl13 | exact nr13 | exact nl14 | exact nr14 | exact nl15 | exact nr15 | exact nl16 | exact nr16 | exact nl17 | exact nr17 | exact nl18 | exact nr18 | exact nl19 | exact nr19 | exact nl20 | exact nr20 | exact nl21 | exact nr21 | exact nl22 | exact nr22 | exact nl23 | exact nr23) | ((with_reducible refine' neq_lt ?z1069zz9); (case z1069zz9 => walk_at "c lt2")) | ((with_reducible refine' neq_gt ?z1069zz9); (case z1069zz9 => walk_at "c lt2")) | ((try dsimp only); omega)
  k_with "c dp" =>
    ((try simp only [depth_under_make, depth_under_kw, depth_in1, depth_deeper, depth_caller]); (try dsimp only [ktrTop]); first | walk_at "c room" | omega | decide)
  k_with "c un" =>
    ((try simp only [units_make, units_in1, units_deeper, Around.mark_units, units_caller]); (try dsimp only [ktrTop]); first | walk_at "c room" | omega | decide)
  k_with "c in" =>
    first | assumption | exact List.mem_append_left _ (by walk_at "c in") | exact List.mem_append_right _ (by walk_at "c in") | exact List.mem_cons_of_mem _ (by walk_at "c in")
  k_with "c sub" =>
    first | (refine List.forall_mem_cons.mpr ⟨?z1073za, ?z1073zb⟩; (case z1073za => walk_at "c mem"); (case z1073zb => walk_at "c sub")) | (refine List.forall_mem_append.mpr ⟨?z1073za, ?z1073zb⟩; (case z1073za => walk_at "c sub"); (case z1073zb => walk_at "c sub")) | exact List.forall_mem_nil _ | (intro p9 h9; walk_at "c in")
  k_with "c out" =>
    first | ((with_reducible refine' LOut.skip ?z1074za ?z1074zb); (case z1074za => first | exact Or.inl rfl | exact Or.inr (Or.inl rfl) | exact Or.inr (Or.inr (Or.inl rfl)) | exact Or.inr (Or.inr (Or.inr rfl))); (case z1074zb => walk_at "c out")) | ((with_reducible refine' LOut.take ?z1074za); (case z1074za => walk_at "c out")) | ((with_reducible refine' LOut.app ?z1074za); (case z1074za => walk_at "c out")) | exact LOut.rest
  k_with "c up" =>
    first | (refine List.forall_mem_cons.mpr ⟨?z1075za, ?z1075zb⟩; (case z1075za => ((try dsimp only); first | walk_at "c lt" | exact (by assumption : ∀ q ∈ _, q.1 < _) _ (by walk_at "c mem") | omega)); (case z1075zb => walk_at "c up")) | (refine List.forall_mem_append.mpr ⟨?z1075za, ?z1075zb⟩; (case z1075za => exact fresh_up (by assumption) (by walk_at "c mem")); (case z1075zb => walk_at "c up")) | exact List.forall_mem_nil _ | assumption
  k_with "c pen" =>
    first | exact PenOut.done (by walk_at "c off") | (refine' PenOut.take ?z1076za ?z1076zb; (case z1076za => k_ne); (case z1076zb => walk_at "c pen"))
  k_with "c off" =>
    first | assumption | exact List.forall_mem_nil _ | (refine List.forall_mem_cons.mpr ⟨?z1077za, ?z1077zb⟩; (case z1077za => k_ne); (case z1077zb => walk_at "c off"))
  k_with "c bnd" =>
    with_reducible (first | assumption | exact Bnd.pow _ | (refine' Bnd.fdiv ?z1078za; (case z1078za => walk_at "c bnd")) | (exact Bnd.mul (by walk_at "c bnd") (by walk_at "c bnd")) | (exact Bnd.add1 (by walk_at "c bnd") (by walk_at "c bnd")) | (exact Bnd.sub1 (by walk_at "c bnd") (by walk_at "c bnd")) | (exact Bnd.add (by walk_at "c bnd") (by walk_at "c bnd")) | (exact Bnd.sub (by walk_at "c bnd") (by walk_at "c bnd")))
  k_with "c ar" =>
    first | assumption | decide | omega | (split <;> omega)
  k_with "c mul" =>
    exact mulOk_bnd (by walk_at "c bnd") (by walk_at "c bnd") (by walk_at "c ar") (by walk_at "c ar")
  k_with "binaryOp Pow int int" =>
    ((with_reducible refine pow_int_small ?z1081zkb1 ?z1081zkb2 ?z1081zkb3 ?_); (case z1081zkb1 => walk_at "c ar"); (case z1081zkb2 => walk_at "c ar"); (case z1081zkb3 => decide))
  k_with "call ref" =>
    (k_here; (with_reducible show wpAny _ _ (call (Prod.fst _) (_ ++ _)) _ _ _); dsimp only [List.nil_append, List.cons_append])
  k_with "subscriptTail" =>
    (k_here; (with_reducible show wpAny _ _ (subscriptTail _ _ (Value.ref _) (Value.int _ _)) _ _ _); k_dflt (first
    | (refine' item_tupleT ?z1083zt ?z1083za ?z1083zb ?z1083zc ?z1083zd ?_; (case z1083zt => exact News.isTup (by k_asm) (by k_mem)); (case z1083za => decide); (case z1083zb => decide); (case z1083zc => exact rfl); (case z1083zd => exact rfl); k_whole)
    | (refine' c_item ?z1083zN ?z1083zm ?z1083za ?z1083zb ?z1083zc ?_ ?z1083zz; (case z1083zN => k_asm); (case z1083zm => k_mem); (case z1083za => decide); (case z1083zb => decide); (case z1083zc => exact rfl); (case z1083zz => with_unfolding_all rfl); k_whole)))
  k_with "subscriptTail Name Constant ref int" =>
    (k_here; (with_reducible show wpAny _ _ (subscriptTail _ _ (Value.ref _) (Value.int _ _)) _ _ _); k_dflt (first
    | (refine' item_tupleT ?z1084zt ?z1084za ?z1084zb ?z1084zc ?z1084zd ?_; (case z1084zt => exact News.isTup (by k_asm) (by k_mem)); (case z1084za => decide); (case z1084zb => decide); (case z1084zc => exact rfl); (case z1084zd => exact rfl); k_whole)
    | (refine' c_item ?z1084zN ?z1084zm ?z1084za ?z1084zb ?z1084zc ?_ ?z1084zz; (case z1084zN => k_asm); (case z1084zm => k_mem); (case z1084za => decide); (case z1084zb => decide); (case z1084zc => exact rfl); (case z1084zz => with_unfolding_all rfl); k_whole)))
  trivial
section
variable {w : World} {mean : ExcName → Option Value} {mg mb : PySem.Str → Option Value} {dp un : Nat} {gd : Option (List Code)} {cn : PySem.Str} {cs : Scope} {a₀ : Addr} {ccd : Value} {cl : List (PySem.Str × Addr)} {outer : List Env}
  {A₀ : Around} {base h₀ : Heap} {L : Addr} {m : PySem.Str → Option Value} {s : Shared} {news : List (Addr × Obj)} {Q : Flow → Shared → Prop} {E : Value → Shared → Prop}
theorem lines_CB_2 : True := by
  k_with "c les" =>
    ((with_reducible refine' sub_of ?z1085zhc9 ?z1085zhr9); (case z1085zhc9 => with_reducible assumption); (case z1085zhr9 => walk_at "c out"))
  k_with "c wo" =>
    first | ((with_reducible refine' Wo.skip ?z1086za); (case z1086za => walk_at "c wo")) | ((with_reducible refine' Wo.take ?z1086za); (case z1086za => walk_at "c wo")) | exact Wo.rest
  k_with "eval Name" =>
    (k_here; k_dflt (refine' nameX_L ?z1087zF ?z1087zv ?_ ?z1087za ?z1087zb; (case z1087zF => k_asm); (case z1087za => exact rfl); (case z1087zb => exact rfl); (case z1087zv => first | exact rfl | assumption); k_whole))
  k_with "call ref" =>
    (k_here; (with_reducible show wpAny _ _ (call (Value.ref 522) [Value.ref _, Value.int _ _]) _ _ _); k_dflt (refine' c_draw ?z1088zcB ?z1088zcF ?z1088zcX ?z1088zcN ?z1088zcT ?z1088zcK ?z1088zcD ?z1088zcU ?z1088zp0 ?z1088zp1 ?z1088zp2 ?z1088zp3 ?z1088zp4 ?z1088zp5 ?z1088zp6 ?z1088zp7 ?_; (case z1088zcB => k_asm); (case z1088zcF => k_asm); (case z1088zcX => k_asm); (case z1088zcN => k_asm); (case z1088zcT => k_asm); (case z1088zcK => first | exact rfl | assumption); (case z1088zcD => walk_at "c dp"); (case z1088zcU => walk_at "c un"); (case z1088zp0 => walk_at "c pen"); (case z1088zp1 => k_mem); (case z1088zp2 => assumption); (case z1088zp3 => assumption); (case z1088zp4 => first | assumption | decide | omega); (case z1088zp5 => first | assumption | decide | omega); (case z1088zp6 => omega); (case z1088zp7 => omega); intro k' t' sp' t1' re' t2' h' tk' F' N' b1 b2 b3 b4; (try k_sweep); (try dsimp only); (try k_fold)))
  k_with "call ref" =>
    (k_here; (with_reducible show wpAny _ _ (call (Value.ref 529) [Value.ref _, Value.ref _]) _ _ _); k_dflt (refine' c_pick ?z1089zcB ?z1089zcF ?z1089zcX ?z1089zcN ?z1089zcT ?z1089zcK ?z1089zcD ?z1089zcU ?z1089zp0 ?z1089zp1 ?z1089zp2 ?z1089zp3 ?z1089zp4 ?z1089zp5 ?z1089zp6 ?z1089zp7 ?z1089zp8 ?_; (case z1089zcB => k_asm); (case z1089zcF => k_asm); (case z1089zcX => k_asm); (case z1089zcN => k_asm); (case z1089zcT => k_asm); (case z1089zcK => first | exact rfl | assumption); (case z1089zcD => walk_at "c dp"); (case z1089zcU => walk_at "c un"); (case z1089zp0 => walk_at "c pen"); (case z1089zp6 => k_mem); (case z1089zp1 => k_mem); (case z1089zp2 => assumption); (case z1089zp3 => assumption); (case z1089zp4 => first | assumption | decide | omega); (case z1089zp5 => first | assumption | decide | omega); (case z1089zp7 => exact Nat.le_of_ble_eq_true rfl); (case z1089zp8 => exact Nat.le_of_ble_eq_true rfl); intro v' sp' t1' re' t2' h' tk' F' N' hv' b3 b4; (obtain ⟨k', t', e', hk'⟩ := menu6 hv'); subst e'; (try k_sweep); (try dsimp only); (try k_fold)))
  k_with "execs cons Assign cons" =>
    (k_here; (with_reducible show wpAny _ _ (execs (PySem.Stmt.Assign _ _ ⟨338, 4, 338, 54⟩ :: _) _) _ _ _); k_dflt (refine' sC ?z1090zB ?z1090zF ?z1090zX ?z1090zT ?z1090zcd ?z1090zcu ?z1090zN ?z1090zho ?z1090zhp ?z1090zh2 ?z1090zh3 ?z1090zh4 ?z1090ze1 ?z1090ze2 ?z1090zi ?z1090zn9 ?z1090zb0 ?z1090zlt ?z1090zup ?z1090zb9 ?z1090zp0 ?z1090zp1 ?z1090zp2 ?z1090zp3 ?z1090zp4 ?z1090zp5 ?z1090zp6 ?z1090zp7 ?z1090zret; (case z1090zB => k_asm); (case z1090zF => k_asm); (case z1090zX => k_asm); (case z1090zT => k_asm); (case z1090zcd => assumption); (case z1090zcu => assumption); (case z1090zN => k_asm); (case z1090zh3 => k_mem); (case z1090ze1 => first | assumption | exact rfl); (case z1090zhp => k_mem); (case z1090zh4 => k_mem); (case z1090zh2 => k_mem); (case z1090ze2 => first | assumption | exact rfl); (case z1090zi => assumption); (case z1090zn9 => assumption); (case z1090zb0 => first | assumption | decide | omega); (case z1090zb9 => first | assumption | decide | omega); (case z1090zlt => first | with_reducible assumption | (refine ⟨?_, ?_, ?_, ?_, ?_⟩ <;> omega)); (case z1090zho => walk_at "c out"); (case z1090zup => walk_at "c up"); (case z1090zp3 => first | exact rfl | assumption); (case z1090zp4 => first | exact rfl | assumption); (case z1090zp5 => first | exact rfl | assumption); (case z1090zp6 => first | exact rfl | assumption); (case z1090zp7 => first | exact rfl | assumption); (case z1090zp1 => k_mem); (case z1090zp2 => k_mem); (case z1090zp0 => exact ⟨⟨by omega, by omega⟩, ⟨by omega, by omega⟩, by assumption, by assumption⟩); (case z1090zret => assumption)))
  trivial

theorem sB (B : Below A₀ base outer h₀) (F : Fr h₀ L s.heap m) (X : (Mine.hd0.heap_1 w.params).In h₀) (T : Top VW LS mean mg mb h₀) (hd : dp + 100 < recursionLimit) (hu : un + 1000 < cLine) {p c cp ct : Addr} {ocp oct : Obj} {sp re : Int} {t1 t2 : Tok} {np : Nat} {ys : List Value} {nc : Nat} {ns : List Int} {led out : List (Addr × Obj)} (N : News h₀ L s.heap led) (hout : LOut p ct cp c led out) (hpen : (p, penObj c sp t1 re t2 np) ∈ led) (hctm : (ct, oct) ∈ led) (hcpm : (cp, ocp) ∈ led) (hcm : (c, listOf ys.toArray nc) ∈ led) (hcp : ocp.data = .cell (some (.ref p))) (hct : oct.data = .cell none) (hi : IntsAre ys ns) (hn9 : ns.length ≤ 63) (h0 : 0 ≤ sp) (hlt : @LT.lt Nat _ cp ct ∧ @LT.lt Nat _ ct p ∧ @LT.lt Nat _ c p ∧ @Ne Nat ct c ∧ @Ne Nat cp c) (hup : ∀ q ∈ out, @LT.lt Nat _ p q.1) (h9 : sp ≤ 2) {sh dsh stb str : Addr} {ks1 ks2 : Tok} (hsh : (sh, instObj 473 dsh) ∈ out) (hdsh : (dsh, shelfObj w stb str ks1 ks2) ∈ out) (m_shelf : m (PySem.Str.ofString "shelf") = some (.ref sh))  (ret : ∀ m' h' tk', Fr h₀ L h' m' → Q (.ret (.bool true)) { s with heap := h', toks := tk' }) : wpAny (model PySem.Challenge.rw_qz0079_01.row.prog w) (ktrTop dp un gd cn lawScope L a₀ ccd [(PySem.Str.ofString "times", ct), (PySem.Str.ofString "pen", cp)] outer) (execs (lawBody.drop 2) (envX cn lawScope L a₀ ccd [(PySem.Str.ofString "times", ct), (PySem.Str.ofString "pen", cp)])) Q (fun _ _ => False) s := by
  replace N := led4 N hpen hctm hcpm hcm hout
  have hlt5 : @LT.lt Nat _ cp p := Nat.lt_trans hlt.1 hlt.2.1
  have hup' : ∀ q ∈ out, q.1 ≠ p := fun q hq => Nat.ne_of_gt (hup q hq)
  have huc' : ∀ q ∈ out, q.1 ≠ ct := fun q hq => Nat.ne_of_gt (Nat.lt_trans hlt.2.1 (hup q hq))
  clear hout hpen hctm hcpm hcm
  conv in List.drop _ lawBody => whnf
  conv in (occs := *) lawScope => whnf
  revert X; k_fill; intro X
  w_on
  (try k_fold)
  k_steps
  all_goals skip
end
end PartCB
section PartCA
theorem lines_CA_1 : True := by
  k_with_none
  k_with "c mem" =>
    first | ((with_reducible refine' mem_here ?z1091zh9); (case z1091zh9 => exact rfl)) | ((with_reducible refine' mem_nth 1 ?z1091zh9); (case z1091zh9 => exact rfl)) | ((with_reducible refine' mem_nth 2 ?z1091zh9); (case z1091zh9 => exact rfl)) | ((with_reducible refine' mem_nth 3 ?z1091zh9); (case z1091zh9 => exact rfl)) | ((with_reducible refine' mem_nth 4 ?z1091zh9); (case z1091zh9 => exact rfl)) | ((with_reducible refine' mem_nth 5 ?z1091zh9); (case z1091zh9 => exact rfl)) | ((with_reducible refine' mem_nth 6 ?z1091zh9); (case z1091zh9 => exact rfl)) | ((with_reducible refine' mem_nth 7 ?z1091zh9); (case z1091zh9 => exact rfl)) | ((with_reducible refine' mem_nth 8 ?z1091zh9); (case z1091zh9 => exact rfl)) | ((with_reducible refine' mem_nth 9 ?z1091zh9); (case z1091zh9 => exact rfl)) | ((with_reducible refine' mem_skip ?_); walk_at "c mem") | (with_reducible exact List.mem_append_left _ (by with_reducible assumption)) | ktr_member | ((with_reducible refine' List.mem_cons_of_mem _ ?_); walk_at "c mem") | ((with_reducible refine' List.mem_append_right _ ?_); walk_at "c mem")
  k_with "c room" =>
    with_reducible first | assumption | exact room1 (by assumption) rfl | exact room2 (by assumption) rfl | exact room3 (by assumption) rfl | exact room4 (by assumption) rfl
  k_with "c le" =>
    with_reducible first | assumption | exact Nat.le_trans (by assumption) (by decide)
  k_with "c lt1" =>
    with_reducible first | assumption | exact cj0 | exact cj1 | exact cj2 | exact cj3 | exact cj4 | exact cj5 | exact cj6 | exact cj7 | exact cj8 | exact cj9 | exact cj10 | exact cj11 | exact cj12 | exact cj13 | exact cj14 | exact cj15 | exact cj16 | exact cj17 | exact cj18 | exact cj19 | exact cj20 | exact cj21 | exact cj22 | exact cj23 | exact And.right (by with_reducible assumption) | exact And.right (And.right (by with_reducible assumption)) | exact And.right (And.right (And.right (by with_reducible assumption))) | exact And.right (And.right (And.right (And.right (by with_reducible assumption))))
  k_with "c lt2" =>
    ((with_reducible refine' Nat.lt_trans ?z1095za9 ?z1095zb9); (case z1095zb9 => with_reducible assumption); (case z1095za9 => walk_at "c lt1"))
  k_with "c lt" =>
    first | walk_at "c lt1" | walk_at "c lt2"
  k_with "c up3" =>
    with_reducible first | exact abv3 (by assumption) | exact abv3_1 (by assumption) | exact abv3_2 (by assumption) | exact abv3_3 (by assumption) | exact abv3_4 (by assumption) | (refine' Abv3.tr ?z1097za9 ?z1097zb9; (case z1097za9 => assumption); (case z1097zb9 => walk_at "c up3"))
  k_with "c ne" =>
    first | with_reducible (first | assumption | exact And.left (by assumption) | exact Ne.symm (And.left (by assumption)) | exact And.left (And.right (by assumption)) | exact Ne.symm (And.left (And.right (by assumption))) | exact And.right (And.right (by assumption)) | exact Ne.symm (And.right (And.right (by assumption))) | exact neq_lt (by assumption) | exact neq_gt (by assumption) | exact nl0 | exact nr0 | exact nl1 | exact nr1 | exact nl2 | exact nr2 | exact nl3 | exact nr3 | exact nl4 | exact nr4 | exact nl5 | exact nr5 | exact nl6 | exact nr6 | exact nl7 | exact nr7 | exact nl8 | exact nr8 | exact nl9 | exact nr9 | exact nl10 | exact nr10 | exact nl11 | exact nr11 | exact nl12 | exact nr12 | exact nl13 | exact nr13 | exact nl14 | exact nr14 | exact nl15 | exact nr15 | exact nl16 | exact nr16 | exact nl17 | exact nr17 | exact nl18 | exact nr18 | exact nl19 | exact nr19 | exact nl20 | exact nr20 | exact nl21 | exact nr21 | exact nl22 | exact nr22 | exact nl23 | exact nr23) | ((with_reducible refine' neq_lt ?z1098zz9); (case z1098zz9 => walk_at "c lt2")) | ((with_reducible refine' neq_gt ?z1098zz9); (case z1098zz9 => walk_at "c lt2")) | ((try dsimp only); omega)
  k_with "c dp" =>
    ((try simp only [depth_under_make, depth_under_kw, depth_in1, depth_deeper, depth_caller]); (try dsimp only [ktrTop]); first | walk_at "c room" | omega | decide)
  k_with "c un" =>
    ((try simp only [units_make, units_in1, units_deeper, Around.mark_units, units_caller]); (try dsimp only [ktrTop]); first | walk_at "c room" | omega | decide)
  k_with "c in" =>
    first | assumption | exact List.mem_append_left _ (by walk_at "c in") | exact List.mem_append_right _ (by walk_at "c in") | exact List.mem_cons_of_mem _ (by walk_at "c in")
  k_with "c sub" =>
    first | (refine List.forall_mem_cons.mpr ⟨?z1102za, ?z1102zb⟩; (case z1102za => walk_at "c mem"); (case z1102zb => walk_at "c sub")) | (refine List.forall_mem_append.mpr ⟨?z1102za, ?z1102zb⟩; (case z1102za => walk_at "c sub"); (case z1102zb => walk_at "c sub")) | exact List.forall_mem_nil _ | (intro p9 h9; walk_at "c in")
  k_with "c out" =>
    first | ((with_reducible refine' LOut.skip ?z1103za ?z1103zb); (case z1103za => first | exact Or.inl rfl | exact Or.inr (Or.inl rfl) | exact Or.inr (Or.inr (Or.inl rfl)) | exact Or.inr (Or.inr (Or.inr rfl))); (case z1103zb => walk_at "c out")) | ((with_reducible refine' LOut.take ?z1103za); (case z1103za => walk_at "c out")) | ((with_reducible refine' LOut.app ?z1103za); (case z1103za => walk_at "c out")) | exact LOut.rest
  k_with "c up" =>
    first | (refine List.forall_mem_cons.mpr ⟨?z1104za, ?z1104zb⟩; (case z1104za => ((try dsimp only); first | walk_at "c lt" | exact (by assumption : ∀ q ∈ _, q.1 < _) _ (by walk_at "c mem") | omega)); (case z1104zb => walk_at "c up")) | (refine List.forall_mem_append.mpr ⟨?z1104za, ?z1104zb⟩; (case z1104za => exact fresh_up (by assumption) (by walk_at "c mem")); (case z1104zb => walk_at "c up")) | exact List.forall_mem_nil _ | assumption
  k_with "c pen" =>
    first | exact PenOut.done (by walk_at "c off") | (refine' PenOut.take ?z1105za ?z1105zb; (case z1105za => k_ne); (case z1105zb => walk_at "c pen"))
  k_with "c off" =>
    first | assumption | exact List.forall_mem_nil _ | (refine List.forall_mem_cons.mpr ⟨?z1106za, ?z1106zb⟩; (case z1106za => k_ne); (case z1106zb => walk_at "c off"))
  k_with "c bnd" =>
    with_reducible (first | assumption | exact Bnd.pow _ | (refine' Bnd.fdiv ?z1107za; (case z1107za => walk_at "c bnd")) | (exact Bnd.mul (by walk_at "c bnd") (by walk_at "c bnd")) | (exact Bnd.add1 (by walk_at "c bnd") (by walk_at "c bnd")) | (exact Bnd.sub1 (by walk_at "c bnd") (by walk_at "c bnd")) | (exact Bnd.add (by walk_at "c bnd") (by walk_at "c bnd")) | (exact Bnd.sub (by walk_at "c bnd") (by walk_at "c bnd")))
  k_with "c ar" =>
    first | assumption | decide | omega | (split <;> omega)
  k_with "c mul" =>
    exact mulOk_bnd (by walk_at "c bnd") (by walk_at "c bnd") (by walk_at "c ar") (by walk_at "c ar")
  k_with "binaryOp Pow int int" =>
    ((with_reducible refine pow_int_small ?z1110zkb1 ?z1110zkb2 ?z1110zkb3 ?_); (case z1110zkb1 => walk_at "c ar"); (case z1110zkb2 => walk_at "c ar"); (case z1110zkb3 => decide))
  k_with "call ref" =>
    (k_here; (with_reducible show wpAny _ _ (call (Prod.fst _) (_ ++ _)) _ _ _); dsimp only [List.nil_append, List.cons_append])
  k_with "subscriptTail" =>
    (k_here; (with_reducible show wpAny _ _ (subscriptTail _ _ (Value.ref _) (Value.int _ _)) _ _ _); k_dflt (first
    | (refine' item_tupleT ?z1112zt ?z1112za ?z1112zb ?z1112zc ?z1112zd ?_; (case z1112zt => exact News.isTup (by k_asm) (by k_mem)); (case z1112za => decide); (case z1112zb => decide); (case z1112zc => exact rfl); (case z1112zd => exact rfl); k_whole)
    | (refine' c_item ?z1112zN ?z1112zm ?z1112za ?z1112zb ?z1112zc ?_ ?z1112zz; (case z1112zN => k_asm); (case z1112zm => k_mem); (case z1112za => decide); (case z1112zb => decide); (case z1112zc => exact rfl); (case z1112zz => with_unfolding_all rfl); k_whole)))
  k_with "subscriptTail Name Constant ref int" =>
    (k_here; (with_reducible show wpAny _ _ (subscriptTail _ _ (Value.ref _) (Value.int _ _)) _ _ _); k_dflt (first
    | (refine' item_tupleT ?z1113zt ?z1113za ?z1113zb ?z1113zc ?z1113zd ?_; (case z1113zt => exact News.isTup (by k_asm) (by k_mem)); (case z1113za => decide); (case z1113zb => decide); (case z1113zc => exact rfl); (case z1113zd => exact rfl); k_whole)
    | (refine' c_item ?z1113zN ?z1113zm ?z1113za ?z1113zb ?z1113zc ?_ ?z1113zz; (case z1113zN => k_asm); (case z1113zm => k_mem); (case z1113za => decide); (case z1113zb => decide); (case z1113zc => exact rfl); (case z1113zz => with_unfolding_all rfl); k_whole)))
  trivial
section
variable {w : World} {mean : ExcName → Option Value} {mg mb : PySem.Str → Option Value} {dp un : Nat} {gd : Option (List Code)} {cn : PySem.Str} {cs : Scope} {a₀ : Addr} {ccd : Value} {cl : List (PySem.Str × Addr)} {outer : List Env}
  {A₀ : Around} {base h₀ : Heap} {L : Addr} {m : PySem.Str → Option Value} {s : Shared} {news : List (Addr × Obj)} {Q : Flow → Shared → Prop} {E : Value → Shared → Prop}
theorem lines_CA_2 : True := by
  k_with "c les" =>
    ((with_reducible refine' sub_of ?z1114zhc9 ?z1114zhr9); (case z1114zhc9 => with_reducible assumption); (case z1114zhr9 => walk_at "c out"))
  k_with "c wo" =>
    first | ((with_reducible refine' Wo.skip ?z1115za); (case z1115za => walk_at "c wo")) | ((with_reducible refine' Wo.take ?z1115za); (case z1115za => walk_at "c wo")) | exact Wo.rest
  k_with "eval Name" =>
    (k_here; k_dflt (refine' nameX_L ?z1116zF ?z1116zv ?_ ?z1116za ?z1116zb; (case z1116zF => k_asm); (case z1116za => exact rfl); (case z1116zb => exact rfl); (case z1116zv => first | exact rfl | assumption); k_whole))
  k_with "call ref" =>
    (k_here; (with_reducible show wpAny _ _ (call (Value.ref 515) [Value.ref _]) _ _ _); k_dflt (refine' c_pen ?z1117zcB ?z1117zcF ?z1117zcX ?z1117zcN ?z1117zcT ?z1117zcK ?z1117zcD ?z1117zcU ?z1117zp0 ?z1117zp1 ?z1117zp2 ?z1117zp3 ?_; (case z1117zcB => k_asm); (case z1117zcF => k_asm); (case z1117zcX => k_asm); (case z1117zcN => k_asm); (case z1117zcT => k_asm); (case z1117zcK => first | exact rfl | assumption); (case z1117zcD => walk_at "c dp"); (case z1117zcU => walk_at "c un"); (case z1117zp0 => assumption); (case z1117zp1 => assumption); (case z1117zp2 => assumption); (case z1117zp3 => assumption); intro p' c' ys' nc' ms' t1' t2' np' h' tk' F' N' hI' hn' l1' l3' l2'; (try simp only [AllLt, and_true] at l1'); (try simp only [LCg.Off1, and_true] at l3'); (try k_sweep); (try dsimp only); (try k_fold)))
  k_with "call ref" =>
    (k_here; (with_reducible show wpAny _ _ (call (Value.ref 473) [Value.ref _, Value.ref _]) _ _ _); k_dflt (refine' c_lookup ?z1118zcB ?z1118zcF ?z1118zcX ?z1118zcN ?z1118zcT ?z1118zcK ?z1118zcD ?z1118zcU ?z1118zp0 ?z1118zp1 ?z1118zp2 ?z1118zp3 ?_; (case z1118zcB => k_asm); (case z1118zcF => k_asm); (case z1118zcX => k_asm); (case z1118zcN => k_asm); (case z1118zcT => k_asm); (case z1118zcK => first | exact rfl | assumption); (case z1118zcD => walk_at "c dp"); (case z1118zcU => walk_at "c un"); (case z1118zp0 => k_mem); (case z1118zp1 => exact ⟨by assumption, by assumption⟩); (case z1118zp2 => k_mem); (case z1118zp3 => exact ⟨by assumption, by assumption⟩); intro x' dx' k1' k2' h' tk' F' N' l1' l2'; (try simp only [AllLt, and_true] at l1'); (try k_sweep); (try dsimp only); (try k_fold)))
  k_with "execs cons Assign cons" =>
    (k_here; (with_reducible show wpAny _ _ (execs (PySem.Stmt.Assign _ _ ⟨336, 4, 336, 65⟩ :: _) _) _ _ _); k_dflt (refine' sB ?z1119zB ?z1119zF ?z1119zX ?z1119zT ?z1119zcd ?z1119zcu ?z1119zN ?z1119zho ?z1119zhp ?z1119zh2 ?z1119zh3 ?z1119zh4 ?z1119ze1 ?z1119ze2 ?z1119zi ?z1119zn9 ?z1119zb0 ?z1119zlt ?z1119zup ?z1119zb9 ?z1119zp0 ?z1119zp1 ?z1119zp2 ?z1119zret; (case z1119zB => k_asm); (case z1119zF => k_asm); (case z1119zX => k_asm); (case z1119zT => k_asm); (case z1119zcd => assumption); (case z1119zcu => assumption); (case z1119zN => k_asm); (case z1119zh3 => k_mem); (case z1119ze1 => first | assumption | exact rfl); (case z1119zhp => k_mem); (case z1119zh4 => k_mem); (case z1119zh2 => k_mem); (case z1119ze2 => first | assumption | exact rfl); (case z1119zi => assumption); (case z1119zn9 => assumption); (case z1119zb0 => first | assumption | decide | omega); (case z1119zb9 => first | assumption | decide | omega); (case z1119zlt => first | with_reducible assumption | (refine ⟨?_, ?_, ?_, ?_, ?_⟩ <;> omega)); (case z1119zho => walk_at "c out"); (case z1119zup => walk_at "c up"); (case z1119zp2 => first | exact rfl | assumption); (case z1119zp0 => k_mem); (case z1119zp1 => k_mem); (case z1119zret => assumption)))
  trivial

theorem sA (B : Below A₀ base outer h₀) (F : Fr h₀ L s.heap m) (X : (Mine.hd0.heap_1 w.params).In h₀) (T : Top VW LS mean mg mb h₀) (hd : dp + 100 < recursionLimit) (hu : un + 1000 < cLine) {cp ct : Addr} {ocp oct : Obj} (N : News h₀ L s.heap [(ct, oct), (cp, ocp)]) (hcp : ocp.data = .cell none) (hct : oct.data = .cell none) (hlt : @LT.lt Nat _ cp ct) {a : Addr} {vs : List Value} {ks : List Int} (m_script : m (PySem.Str.ofString "script") = some (.ref a)) (hS : h₀.IsList a vs.toArray) (hI : IntsAre vs ks) (hlay : PyData.layable0 (.list (ks.map .int)) = true) (hl : ks.length ≤ 63) (ret : ∀ m' h' tk', Fr h₀ L h' m' → Q (.ret (.bool true)) { s with heap := h', toks := tk' }) : wpAny (model PySem.Challenge.rw_qz0079_01.row.prog w) (ktrTop dp un gd cn lawScope L a₀ ccd [(PySem.Str.ofString "times", ct), (PySem.Str.ofString "pen", cp)] outer) (execs (lawBody.drop 0) (envX cn lawScope L a₀ ccd [(PySem.Str.ofString "times", ct), (PySem.Str.ofString "pen", cp)])) Q (fun _ _ => False) s := by
  conv in List.drop _ lawBody => whnf
  conv in (occs := *) lawScope => whnf
  revert X; k_fill; intro X
  w_on
  (try k_fold)
  k_steps
  all_goals skip
end
end PartCA
end Parts
theorem walkAll : WalkAll := by
  k_with_none
  unfold WalkAll
  k_go0
  rename Below _ _ _ _ => kB
  rename Fr _ _ _ _ => kF
  rename News _ _ _ _ => kN
  rename Top _ _ _ _ _ _ => kT
  rename Heap.IsList _ _ _ => kS
  rename IntsAre _ _ => kI
  rename PyData.layable0 (PyData.list (List.map _ _)) = true => kL
  rename (Mine.hd0.heap_1 _).In _ => kX
  rename Obj.data _ = Data.cell (bindC _ _ _ (PySem.Str.ofString "times")) => hC1
  rename Obj.data _ = Data.cell (bindC _ _ _ (PySem.Str.ofString "pen")) => hC2
  refine wpAny_mono (Q := _) (E := fun _ _ => False) (sA kB kF kX kT ?d ?u kN ?e1 ?e2 ?lt ?ms kS kI kL ?len ?ret) (fun _ _ h => h) (fun _ _ h => h.elim)
  case d => ((simp only [depth_caller]); decide)
  case u => ((simp only [units_caller]); decide)
  case e1 => exact hC2.trans (by with_unfolding_all rfl)
  case e2 => exact hC1.trans (by with_unfolding_all rfl)
  case lt => exact Nat.lt_succ_self _
  case ms => with_unfolding_all rfl
  case len => omega
  case ret =>
    intro m' h' tk' kF'
    (k_end; wrow_close)
end Mine
theorem PySem.Challenge.cw_qz0079_01_holds : PySem.Challenge.rw_qz0079_01.Holds :=
  Mine.hd Mine.walkAll
